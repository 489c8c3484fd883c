import PyProof.Rows.All
import Wide.All
import OpenK.AllK
import Wide.FinOn
import KE.KStateDown
import HandS.ForMost
import HandS.ForExc
import HandS.IsInst
import HandS.Zip
import HandS.Conv
import HandS.Wide
import HandS.SortInts
import HandS.More
import HandS.Defaults
import HandS.Lambda
import HandS.TupAny
import HandS.TupLe
import HandS.Style
import HandS.Call
import HandS.TupMul
import KE.KDictZip
import HandS.ListItems
import HandS.SetFor
import PyProof.Rows.Range3
import HandS.RaiseMore
import HandS.TryMany
import HandS.ExcIs
import HandS.WordsExc
import HandS.HeadHook4
import HandS.ExcCtx
import HandS.HotCalls
import KE.KNest
import HandS.Hot
import HandS.Strs
import HandS.ExcInit
import HandS.ExcField
import HandS.Head0
import HandS.Head1
import HandS.Head2
import HandS.HeadEnd
import HandS.HeadHook1
import HandS.HeadHook2
import HandS.HeadWalk
import HandS.EndTab
import PySem.Challenge.RW_stairlamps_k12_who_is_refused
set_option Elab.async false
set_option linter.all false
set_option maxRecDepth 100000
set_option maxHeartbeats 4000000
/- ==== DLa ==== -/
/-! DLa: a layer over data. Values are told as plain data; the heap stands aside. -/
namespace DL
open PySem PySem.Spec PyProof.Rows L2
/-- the name that the law's lambda bears -/
def qlam : Str := "_law_kin_of.<locals>.<lambda>"

/-! ### values as data -/
/-- a lambda that captures nothing, as it stands in the text -/
structure LamD where
  q : Str
  params : Arguments
  body : Expr
  scope : Scope
/-- its function object at f, its code object at c' -/
def FunO (f c' : Addr) (pm ctv : Value) (L : LamD) : HO := .ext fun h => h.get? f = some (PySem.W.kla_obj "<lambda>" L.q L.params L.body L.scope [] pm c' ctv)
inductive D where
  /-- a dict that is never written again -/
  | lk (kvs : List (Key × PyData))
  /-- an error at a, its attributes at dd -/
  | ex (a dd : Addr) (fs : List (Str × PyData))
  /-- a lambda -/
  | fn (L : LamD)
  /-- plain data -/
  | py (d : PyData)
  /-- a value by itself -/
  | raw (v : V)
  /-- a list, a dict that only this frame holds -/
  | ol (ds : List PyData)
  | od (kvs : List (Key × PyData))
  /-- a dict that stands still -/
  | dic (kvs : List (Key × PyData))
  /-- an instance that stands still, its attributes -/
  | ins (p C : Addr) (fs : List (Str × PyData))
abbrev D.int (i : Int) : D := .py (.int i)
abbrev D.bl (b : Bool) : D := .py (.bool b)
abbrev D.str (s : Str) : D := .py (.str s)
abbrev D.non : D := .py .none
abbrev D.lst (ds : List PyData) : D := .py (.list ds)
abbrev D.tup (ds : List PyData) : D := .py (.tuple ds)
def D.own : D → Prop
  | .ol _ => True
  | .od _ => True
  | _ => False

/-- not an own object -/
def fre : D → Prop → Prop
  | .ol _, _ => False
  | .od _, _ => False
  | _, p => p

abbrev Kf := PySem.W.Frag
mutual
/-- the value v stands for the data d: lists are tracked themselves -/
inductive Dt (K : Kf) (G : Hp) : V → PyData → Prop
  | non : Dt K G .non .none
  | bl (b : Bool) : Dt K G (.bl b) (.bool b)
  | int (i : Int) : Dt K G (.int i) (.int i)
  | str (x : Str) : Dt K G (.str x) (.str x)
  | lst {a : Addr} {xs : List V} {ds : List PyData} : G a = some (.lst xs) → DtAll K G xs ds → Dt K G (.ref a) (.list ds)
  | tup {a : Addr} {xs : List V} {ds : List PyData} : SqT K G a xs → DtAll K G xs ds → Dt K G (.ref a) (.tuple ds)
inductive DtAll (K : Kf) (G : Hp) : List V → List PyData → Prop
  | nil : DtAll K G [] []
  | cons {v : V} {vs : List V} {d : PyData} {ds : List PyData} : Dt K G v d → DtAll K G vs ds → DtAll K G (v :: vs) (d :: ds)
end
mutual
theorem Dt.dp {K : Kf} {G : Hp} : ∀ {v : V} {d : PyData}, Dt K G v d → Dp K G v d
  | _, _, .non => .non
  | _, _, .bl b => .bl b
  | _, _, .int i => .int i
  | _, _, .str x => .str x
  | _, _, .lst h ha => .lst (SqL.of h) (DtAll.dp ha)
  | _, _, .tup h ha => .tup h (DtAll.dp ha)
theorem DtAll.dp {K : Kf} {G : Hp} : ∀ {vs : List V} {ds : List PyData}, DtAll K G vs ds → DpAll K G vs ds
  | _, _, .nil => .nil
  | _, _, .cons h t => .cons (Dt.dp h) (DtAll.dp t)
end
theorem SqT.up {K : Kf} {G G' : Hp} {a : Addr} {xs : List V} (e : Same G G') (h : SqT K G a xs) : SqT K G' a xs := by
  rcases h with (h | ⟨o, h⟩) | h
  · exact .inl (.inl (e _ _ h))
  · exact .inl (.inr ⟨o, e _ _ h⟩)
  · exact .inr h
mutual
theorem Dt.up {K : Kf} {G G' : Hp} (e : Same G G') : ∀ {v : V} {d : PyData}, Dt K G v d → Dt K G' v d
  | _, _, .non => .non
  | _, _, .bl b => .bl b
  | _, _, .int i => .int i
  | _, _, .str x => .str x
  | _, _, .lst h ha => .lst (e _ _ h) (DtAll.up e ha)
  | _, _, .tup h ha => .tup (SqT.up e h) (DtAll.up e ha)
theorem DtAll.up {K : Kf} {G G' : Hp} (e : Same G G') : ∀ {vs : List V} {ds : List PyData}, DtAll K G vs ds → DtAll K G' vs ds
  | _, _, .nil => .nil
  | _, _, .cons h t => .cons (Dt.up e h) (DtAll.up e t)
end
theorem DtAll.length {K : Kf} {G : Hp} : ∀ {vs : List V} {ds : List PyData}, DtAll K G vs ds → vs.length = ds.length
  | _, _, .nil => rfl
  | _, _, .cons _ t => by rw [List.length_cons, List.length_cons, DtAll.length t]
theorem DtAll.get {K : Kf} {G : Hp} : ∀ {vs : List V} {ds : List PyData} {i : Nat} {v : V}, DtAll K G vs ds → vs[i]? = some v → ∃ d, ds[i]? = some d ∧ Dt K G v d
  | _, _, _, _, .nil, e => by simp at e
  | _, _, 0, _, .cons h _, e => by
    simp at e; subst e; exact ⟨_, rfl, h⟩
  | _, _, i + 1, v, .cons _ t, e => by
    obtain ⟨d, h1, h2⟩ := DtAll.get (i := i) (v := v) t (by simpa using e)
    exact ⟨d, by simpa using h1, h2⟩
theorem DtAll.getD {K : Kf} {G : Hp} : ∀ {vs : List V} {ds : List PyData} {i : Nat} {d : PyData}, DtAll K G vs ds → ds[i]? = some d → ∃ v, vs[i]? = some v ∧ Dt K G v d
  | _, _, _, _, .nil, e => by simp at e
  | _, _, 0, _, .cons h _, e => by
    simp at e; subst e; exact ⟨_, rfl, h⟩
  | _, _, i + 1, v, .cons _ t, e => by
    obtain ⟨d, h1, h2⟩ := DtAll.getD (i := i) (d := v) t (by simpa using e)
    exact ⟨d, by simpa using h1, h2⟩
theorem DtAll.append {K : Kf} {G : Hp} : ∀ {vs ws : List V} {ds es : List PyData}, DtAll K G vs ds → DtAll K G ws es → DtAll K G (vs ++ ws) (ds ++ es)
  | _, _, _, _, .nil, s => s
  | _, _, _, _, .cons r t, s => .cons r (DtAll.append t s)
theorem DtAll.one {K : Kf} {G : Hp} {v : V} {d : PyData} (h : Dt K G v d) : DtAll K G [v] [d] := .cons h .nil
theorem DtAll.take {K : Kf} {G : Hp} : ∀ {vs : List V} {ds : List PyData} (n : Nat), DtAll K G vs ds → DtAll K G (vs.take n) (ds.take n)
  | _, _, 0, _ => .nil
  | _, _, _ + 1, .nil => .nil
  | _, _, n + 1, .cons r t => .cons r (DtAll.take n t)
theorem DtAll.drop {K : Kf} {G : Hp} : ∀ {vs : List V} {ds : List PyData} (n : Nat), DtAll K G vs ds → DtAll K G (vs.drop n) (ds.drop n)
  | _, _, 0, r => r
  | _, _, _ + 1, .nil => .nil
  | _, _, n + 1, .cons _ t => DtAll.drop n t
theorem DtAll.set {K : Kf} {G : Hp} {x : V} {e : PyData} (r : Dt K G x e) : ∀ {vs : List V} {ds : List PyData} (i : Nat), DtAll K G vs ds → DtAll K G (vs.set i x) (ds.set i e)
  | _, _, _, .nil => .nil
  | _, _, 0, .cons _ t => .cons r t
  | _, _, i + 1, .cons q t => .cons q (DtAll.set r i t)
theorem DtAll.ints {K : Kf} {G : Hp} : ∀ {vs : List V} {ns : List Int}, DtAll K G vs (ns.map PyData.int) → vs = ns.map V.int
  | _, [], h => by cases h; rfl
  | _, n :: ns, h => by
    cases h with
    | cons h1 h2 => cases h1; rw [DtAll.ints h2]; rfl
theorem DtAll.ofInts {K : Kf} {G : Hp} : ∀ (ns : List Int), DtAll K G (ns.map V.int) (ns.map PyData.int)
  | [] => .nil
  | n :: ns => .cons (.int n) (DtAll.ofInts ns)
theorem DtAll.bls {K : Kf} {G : Hp} : ∀ {vs : List V} {ns : List Bool}, DtAll K G vs (ns.map PyData.bool) → vs = ns.map V.bl
  | _, [], h => by cases h; rfl
  | _, n :: ns, h => by
    cases h with
    | cons h1 h2 => cases h1; rw [DtAll.bls h2]; rfl
theorem DtAll.strs {K : Kf} {G : Hp} : ∀ {vs : List V} {ns : List Str}, DtAll K G vs (ns.map PyData.str) → vs = ns.map V.str
  | _, [], h => by cases h; rfl
  | _, n :: ns, h => by
    cases h with
    | cons h1 h2 => cases h1; rw [DtAll.strs h2]; rfl
theorem DtAll.ofStrs {K : Kf} {G : Hp} : ∀ (ns : List Str), DtAll K G (ns.map V.str) (ns.map PyData.str)
  | [] => .nil
  | n :: ns => .cons (.str n) (DtAll.ofStrs ns)

/-- pairs by key -/
def KvR {κ : Type} (K : Kf) (G : Hp) (vs : List (κ × V)) (kvs : List (κ × PyData)) : Prop := Paired (fun p q => p.1 = q.1 ∧ Dt K G p.2 q.2) vs kvs
theorem KvR.up {κ : Type} {K : Kf} {G G' : Hp} (e : Same G G') {vs : List (κ × V)} {kvs : List (κ × PyData)} (h : KvR K G vs kvs) : KvR K G' vs kvs :=
  Paired.mapP h fun _ _ z => ⟨z.1, Dt.up e z.2⟩

/-- this frame's own: not in the stable part, no bag -/
def Own (B : List Addr) (G : Hp) (p : Addr) : Prop := G p = none ∧ p ∉ B
def Rp (K : Kf) (B : List Addr) (G H : Hp) : D → V → Prop
  | .py d, v => Dt K G v d
  | .raw u, v => v = u
  | .ol ds, v => ∃ p vs, v = .ref p ∧ Own B G p ∧ H p = some (.lst vs) ∧ DtAll K G vs ds
  | .od kvs, v => ∃ p vs, v = .ref p ∧ Own B G p ∧ H p = some (.dK vs) ∧ KvR K G vs kvs
  | .dic kvs, v => ∃ p vs, v = .ref p ∧ G p = some (.dK vs) ∧ KvR K G vs kvs
  | .ins p C fs, v => ∃ dx vs, v = .ref p ∧ G p = some (.ins C dx vs) ∧ KvR K G vs fs
  | .fn L, v => ∃ f c' pm ctv, v = .ref f ∧ G f = some (FunO f c' pm ctv L) ∧ G c' = some (LamX.CodeO c' L.q)
  | .lk kvs, v => ∃ p od vs, v = .ref p ∧ G p = some (.frz od (.dK vs)) ∧ KvR K G vs kvs
  | .ex a dd fs, v => v = .ref a ∧ ∃ vs, G dd = some (.xd vs) ∧ KvR K G vs fs

/-! ### the bags of draws -/
def DrawAt (K : Kf) (G H : Hp) (b : Addr) : Prop := ∃ (dl : Addr) (c : Int) (ns : List Int), H b = some (.lst [.ref dl, .int c]) ∧ 0 ≤ c ∧ G dl = some (.lst (ns.map V.int)) ∧ ns.length = 400 ∧ ∀ n ∈ ns, 0 ≤ n ∧ n < 1000
/-- a table of code objects, each of the name qlam -/
def TabAt (G H : Hp) (b : Addr) : Prop := ∃ ps : Array Value, H b = some (.tbl ps) ∧ TriplesOk ps.toList ∧ ∀ (pos : Pos) (cv : Value), codeAmong pos ps.toList = some cv → ∃ c, cv = .ref c ∧ G c = some (LamX.CodeO c qlam)
/-- the first of B is the table, the others are bags of draws -/
def BagAt (K : Kf) (B : List Addr) (G H : Hp) (b : Addr) : Prop := (B.head? ≠ some b ∧ DrawAt K G H b) ∨ (B.head? = some b ∧ TabAt G H b)
def bagIn (B : List Addr) (b : Addr) : Prop := b ∈ B ∧ B.head? ≠ some b

/-- the heap H, its stable part G, the bags B -/
structure Wd (K : Kf) (B : List Addr) (G H : Hp) : Prop where
  sub : Same G H
  bags : ∀ b ∈ B, G b = none ∧ BagAt K B G H b
/-- what stood stands -/
structure Old (B : List Addr) (G H G' H' : Hp) : Prop where
  up : Same G G'
  keep : ∀ a o, H a = some o → G a = none → a ∉ B → H' a = some o ∧ G' a = none
theorem Old.self {B : List Addr} {G0 H0 G H : Hp} (o : Old B G0 H0 G H) : Old B G H0 G H := ⟨fun _ _ h => h, fun a u h h' hb => by
  cases q : G0 a with
  | none => exact o.keep a u h q hb
  | some v => have := o.up _ _ q; rw [h'] at this; cases this⟩
theorem Old.andThen {B : List Addr} {G0 H0 G H G2 H2 : Hp} (o : Old B G0 H0 G H) (k : Old B G H0 G2 H2) : Old B G0 H0 G2 H2 := ⟨o.up.trans k.up, fun a u h h' hb => k.keep a u h (o.keep a u h h' hb).2 hb⟩
structure Stp (K : Kf) (B : List Addr) (G H G' H' : Hp) : Prop extends Old B G H G' H' where
  wd : Wd K B G' H'
theorem Old.refl {B : List Addr} {G H : Hp} : Old B G H G H := ⟨fun _ _ h => h, fun _ _ h h' _ => ⟨h, h'⟩⟩
theorem Old.trans {B : List Addr} {G H G1 H1 G2 H2 : Hp} (a : Old B G H G1 H1) (b : Old B G1 H1 G2 H2) : Old B G H G2 H2 :=
  ⟨a.up.trans b.up, fun c o h h' hb => let q := a.keep c o h h' hb; b.keep c o q.1 q.2 hb⟩
theorem Stp.refl {K : Kf} {B : List Addr} {G H : Hp} (w : Wd K B G H) : Stp K B G H G H := ⟨Old.refl, w⟩
theorem Stp.trans {K : Kf} {B : List Addr} {G H G1 H1 G2 H2 : Hp} (a : Stp K B G H G1 H1) (b : Stp K B G1 H1 G2 H2) : Stp K B G H G2 H2 := ⟨a.toOld.trans b.toOld, b.wd⟩
theorem BagAt.up {K : Kf} {B : List Addr} {G G' H H' : Hp} {b : Addr} (e : Same G G') (h : BagAt K B G H b) (q : H' b = H b) : BagAt K B G' H' b := by
  rcases h with ⟨n, dl, c, ns, h1, h2, h3, h4, h5⟩ | ⟨n, ps, h1, h2, h3⟩
  · exact .inl ⟨n, dl, c, ns, q.trans h1, h2, e _ _ h3, h4, h5⟩
  · exact .inr ⟨n, ps, q.trans h1, h2, fun pos cv hc => let ⟨c, e1, e2⟩ := h3 pos cv hc; ⟨c, e1, e _ _ e2⟩⟩
theorem BagAt.some {K : Kf} {B : List Addr} {G H : Hp} {b : Addr} (h : BagAt K B G H b) : ∃ o, H b = some o := by
  rcases h with ⟨_, dl, c, ns, h1, _⟩ | ⟨_, ps, h1, _⟩
  · exact ⟨_, h1⟩
  · exact ⟨_, h1⟩
theorem Wd.draw {K : Kf} {B : List Addr} {G H : Hp} (w : Wd K B G H) {b : Addr} (h : bagIn B b) : G b = none ∧ DrawAt K G H b := by
  obtain ⟨h1, h2⟩ := w.bags b h.1
  rcases h2 with z | z
  · exact ⟨h1, z.2⟩
  · exact absurd z.1 h.2
theorem Wd.tab {K : Kf} {P : Addr} {bs : List Addr} {G H : Hp} (w : Wd K (P :: bs) G H) : G P = none ∧ TabAt G H P := by
  obtain ⟨h1, h2⟩ := w.bags P (List.mem_cons_self ..)
  rcases h2 with z | z
  · exact absurd rfl z.1
  · exact ⟨h1, z.2⟩
theorem Same.updN {G : Hp} {p : Addr} {o : HO} (h : G p = none) : Same G (upd G p o) := fun b u e => by
  rw [upd_ne (ne_of_none e h)]; exact e
theorem Same.updB {G H : Hp} {p : Addr} {o : HO} (h : Same G H) : Same (upd G p o) (upd H p o) := fun b u e => by
  by_cases q : b = p
  · subst q; rw [upd_same] at e ⊢; exact e
  · rw [upd_ne q] at e ⊢; exact h b u e
/-- a new object, stable -/
theorem Stp.new {K : Kf} {B : List Addr} {G H : Hp} (w : Wd K B G H) {p : Addr} (hp : H p = none) (o : HO) : Stp K B G H (upd G p o) (upd H p o) := by
  have hg : G p = none := w.sub.free hp
  refine ⟨⟨Same.updN hg, fun a u h h' _ => ?_⟩, ⟨Same.updB w.sub, fun b hb => ?_⟩⟩
  · have n := ne_of_none h hp
    rw [upd_ne n, upd_ne n]; exact ⟨h, h'⟩
  · obtain ⟨h1, h2⟩ := w.bags b hb
    obtain ⟨u, hu⟩ := h2.some
    have n := ne_of_none hu hp
    exact ⟨by rw [upd_ne n]; exact h1, h2.up (Same.updN hg) (upd_ne n)⟩
/-- the heap grew; all that is new is stable -/
theorem Stp.grow {K : Kf} {B : List Addr} {G H H' : Hp} (w : Wd K B G H) (e : Same H H') : ∃ G', Stp K B G H G' H' ∧ (∀ a, H a = none → G' a = H' a) ∧ ∀ a o, H a = some o → G' a = G a := by
  refine ⟨fun a => match H a with | some _ => G a | none => H' a, ⟨⟨fun a o h => ?_, fun a o h h' _ => ?_⟩, ⟨fun a o h => ?_, fun b hb => ?_⟩⟩, fun a h => ?_, fun a o h => ?_⟩
  · have := w.sub a o h
    show (match H a with | some _ => G a | none => H' a) = some o
    rw [this]; exact h
  · refine ⟨e a o h, ?_⟩
    show (match H a with | some _ => G a | none => H' a) = none
    rw [h]; exact h'
  · have h : (match H a with | some _ => G a | none => H' a) = some o := h
    cases q : H a with
    | none => rw [q] at h; exact h
    | some u => rw [q] at h; have := w.sub a o h; exact e a o this
  · obtain ⟨h1, h2⟩ := w.bags b hb
    obtain ⟨u, hu⟩ := h2.some
    refine ⟨?_, h2.up (fun a o h => ?_) (by rw [hu]; exact e b u hu)⟩
    · show (match H b with | some _ => G b | none => H' b) = none
      rw [hu]; exact h1
    · show (match H a with | some _ => G a | none => H' a) = some o
      rw [w.sub a o h]; exact h
  · show (match H a with | some _ => G a | none => H' a) = H' a
    rw [h]
  · show (match H a with | some _ => G a | none => H' a) = G a
    rw [h]
theorem Rp.up {K : Kf} {B : List Addr} {G H G' H' : Hp} (e : Old B G H G' H') : ∀ {d : D} {v : V}, Rp K B G H d v → Rp K B G' H' d v
  | .py _, _, h => Dt.up e.up h
  | .raw _, _, h => h
  | .ol _, _, ⟨p, vs, h1, h2, h3, h4⟩ => ⟨p, vs, h1, ⟨(e.keep p _ h3 h2.1 h2.2).2, h2.2⟩, (e.keep p _ h3 h2.1 h2.2).1, DtAll.up e.up h4⟩
  | .od _, _, ⟨p, vs, h1, h2, h3, h4⟩ => ⟨p, vs, h1, ⟨(e.keep p _ h3 h2.1 h2.2).2, h2.2⟩, (e.keep p _ h3 h2.1 h2.2).1, KvR.up e.up h4⟩
  | .dic _, _, ⟨p, vs, h1, h2, h3⟩ => ⟨p, vs, h1, e.up _ _ h2, KvR.up e.up h3⟩
  | .ins _ _ _, _, ⟨dx, vs, h1, h2, h3⟩ => ⟨dx, vs, h1, e.up _ _ h2, KvR.up e.up h3⟩
  | .fn _, _, ⟨f, c, pm, ct, h1, h2, h3⟩ => ⟨f, c, pm, ct, h1, e.up _ _ h2, e.up _ _ h3⟩
  | .lk _, _, ⟨p, od, vs, h1, h2, h3⟩ => ⟨p, od, vs, h1, e.up _ _ h2, KvR.up e.up h3⟩
  | .ex _ _ _, _, ⟨h1, vs, h2, h3⟩ => ⟨h1, vs, e.up _ _ h2, KvR.up e.up h3⟩
/-- in the whole heap plain data is data -/
theorem Rp.dt {K : Kf} {B : List Addr} {G H : Hp} (w : Wd K B G H) {d : PyData} {v : V} (h : Rp K B G H (.py d) v) : Dt K H v d := Dt.up w.sub h

/-! ### slots -/
abbrev Slots := List (Option D)
structure Sl (K : Kf) (B : List Addr) (H0 : Hp) (S : Slots) (σ : L2.St) (G H : Hp) : Prop where
  wd : Wd K B G H
  len : σ.length = S.length
  slot : ∀ (i : Nat) (d : D), S[i]? = some (some d) → ∃ v, σ[i]? = some (some v) ∧ Rp K B G H d v ∧ (d.own → ∀ p, v = .ref p → H0 p = none)
  sep : ∀ (i j : Nat) (di dj : D) (p : Addr), i ≠ j → S[i]? = some (some di) → S[j]? = some (some dj) → di.own → dj.own → σ[i]? = some (some (.ref p)) → σ[j]? = some (some (.ref p)) → False
theorem Sl.step {K : Kf} {B : List Addr} {H0 : Hp} {S : Slots} {σ : L2.St} {G H G' H' : Hp} (s : Sl K B H0 S σ G H) (e : Stp K B G H G' H') : Sl K B H0 S σ G' H' :=
  ⟨e.wd, s.len, fun i d h => let ⟨v, h1, h2, h3⟩ := s.slot i d h; ⟨v, h1, Rp.up e.toOld h2, h3⟩, s.sep⟩
theorem set_get {α : Type} {l : List α} {i j : Nat} {x y : α} (h : (l.set i x)[j]? = some y) : (i = j ∧ y = x ∧ i < l.length) ∨ (i ≠ j ∧ l[j]? = some y) := by
  by_cases e : i = j
  · subst e
    by_cases hl : i < l.length
    · rw [List.getElem?_set_self hl] at h
      exact .inl ⟨rfl, (Option.some.inj h).symm, hl⟩
    · rw [List.getElem?_eq_none (by simpa using hl)] at h; cases h
  · rw [List.getElem?_set_ne e] at h
    exact .inr ⟨e, h⟩
theorem Sl.set {K : Kf} {B : List Addr} {H0 : Hp} {S : Slots} {σ : L2.St} {G H : Hp} (s : Sl K B H0 S σ G H) (i : Nat) {d : D} {v : V} (h : Rp K B G H d v) (hn : ¬ d.own) : Sl K B H0 (S.set i (some d)) (σ.set i (some v)) G H := by
  refine ⟨s.wd, by rw [List.length_set, List.length_set]; exact s.len, fun j e h1 => ?_, fun j k dj dk p hjk h1 h2 o1 o2 q1 q2 => ?_⟩
  · rcases set_get h1 with ⟨rfl, e1, hl⟩ | ⟨ne, h2⟩
    · cases e1
      exact ⟨v, by rw [List.getElem?_set_self (by rw [s.len]; exact hl)], h, fun o => (hn o).elim⟩
    · obtain ⟨u, k1, k2, k3⟩ := s.slot j e h2
      exact ⟨u, by rw [List.getElem?_set_ne ne]; exact k1, k2, k3⟩
  · rcases set_get h1 with ⟨rfl, e1, hl⟩ | ⟨ne1, h1⟩
    · cases e1; exact hn o1
    · rcases set_get h2 with ⟨rfl, e2, hl⟩ | ⟨ne2, h2⟩
      · cases e2; exact hn o2
      · rw [List.getElem?_set_ne ne1] at q1
        rw [List.getElem?_set_ne ne2] at q2
        exact s.sep j k dj dk p hjk h1 h2 o1 o2 q1 q2
theorem Sl.clear {K : Kf} {B : List Addr} {H0 : Hp} {S : Slots} {σ : L2.St} {G H : Hp} (s : Sl K B H0 S σ G H) (i : Nat) (u : Option V) : Sl K B H0 (S.set i none) (σ.set i u) G H := by
  refine ⟨s.wd, by rw [List.length_set, List.length_set]; exact s.len, fun j e h1 => ?_, fun j k dj dk p hjk h1 h2 o1 o2 q1 q2 => ?_⟩
  · rcases set_get h1 with ⟨rfl, e1, hl⟩ | ⟨ne, h2⟩
    · cases e1
    · obtain ⟨u, k1, k2, k3⟩ := s.slot j e h2
      exact ⟨u, by rw [List.getElem?_set_ne ne]; exact k1, k2, k3⟩
  · rcases set_get h1 with ⟨rfl, e1, hl⟩ | ⟨ne1, h1⟩
    · cases e1
    · rcases set_get h2 with ⟨rfl, e2, hl⟩ | ⟨ne2, h2⟩
      · cases e2
      · rw [List.getElem?_set_ne ne1] at q1
        rw [List.getElem?_set_ne ne2] at q2
        exact s.sep j k dj dk p hjk h1 h2 o1 o2 q1 q2
/-- fewer slots known -/
theorem Sl.weak {K : Kf} {B : List Addr} {H0 : Hp} {S S' : Slots} {σ : L2.St} {G H : Hp} (s : Sl K B H0 S σ G H) (hl : S'.length = S.length) (h : ∀ (i : Nat) (d : D), S'[i]? = some (some d) → S[i]? = some (some d)) : Sl K B H0 S' σ G H :=
  ⟨s.wd, s.len.trans hl.symm, fun i d e => s.slot i d (h i d e), fun i j di dj p ne h1 h2 => s.sep i j di dj p ne (h i di h1) (h j dj h2)⟩
/-- a new own object at p -/
theorem Sl.setOwn {K : Kf} {B : List Addr} {H0 : Hp} {S : Slots} {σ : L2.St} {G H : Hp} (s : Sl K B H0 S σ G H) (i : Nat) {d : D} {p : Addr} (h : Rp K B G H d (.ref p)) (h0 : H0 p = Option.none)
    (hd : ∀ (j : Nat) (dj : D), S[j]? = some (some dj) → dj.own → i ≠ j → σ[j]? ≠ some (some (.ref p))) : Sl K B H0 (S.set i (some d)) (σ.set i (some (.ref p))) G H := by
  refine ⟨s.wd, by rw [List.length_set, List.length_set]; exact s.len, fun j e h1 => ?_, fun j k dj dk q hjk h1 h2 o1 o2 q1 q2 => ?_⟩
  · rcases set_get h1 with ⟨rfl, e1, hl⟩ | ⟨ne, h2⟩
    · cases e1
      exact ⟨.ref p, by rw [List.getElem?_set_self (by rw [s.len]; exact hl)], h, fun _ q e => by cases e; exact h0⟩
    · obtain ⟨u, k1, k2, k3⟩ := s.slot j e h2
      exact ⟨u, by rw [List.getElem?_set_ne ne]; exact k1, k2, k3⟩
  · rcases set_get h1 with ⟨rfl, e1, hl⟩ | ⟨ne1, h1⟩
    · rw [List.getElem?_set_self (by rw [s.len]; exact hl)] at q1
      cases q1
      rcases set_get h2 with ⟨rfl, e2, hl⟩ | ⟨ne2, h2⟩
      · exact hjk rfl
      · rw [List.getElem?_set_ne ne2] at q2
        exact hd k dk h2 o2 ne2 q2
    · rcases set_get h2 with ⟨rfl, e2, hl⟩ | ⟨ne2, h2⟩
      · rw [List.getElem?_set_self (by rw [s.len]; exact hl)] at q2
        cases q2
        rw [List.getElem?_set_ne ne1] at q1
        exact hd j dj h1 o1 ne1 q1
      · rw [List.getElem?_set_ne ne1] at q1
        rw [List.getElem?_set_ne ne2] at q2
        exact s.sep j k dj dk q hjk h1 h2 o1 o2 q1 q2

/-! ### readings over data, and what they stand for -/
abbrev DE := Slots → (D → Prop) → Prop
abbrev DT := Slots → (Bool → Prop) → Prop
abbrev DA := Slots → (List D → Prop) → Prop
structure DEnds where
  nx : Slots → Prop
  rt : D → Prop
  bk : Slots → Prop := fun _ => False
  ct : Slots → Prop := fun _ => False
abbrev DS := DEnds → Slots → Prop

inductive RpAll (K : Kf) (B : List Addr) (G H : Hp) : List D → List V → Prop
  | nil : RpAll K B G H [] []
  | cons {d : D} {v : V} {ds : List D} {vs : List V} : Rp K B G H d v → RpAll K B G H ds vs → RpAll K B G H (d :: ds) (v :: vs)
theorem RpAll.up {K : Kf} {B : List Addr} {G H G' H' : Hp} (e : Old B G H G' H') : ∀ {ds : List D} {vs : List V}, RpAll K B G H ds vs → RpAll K B G' H' ds vs
  | _, _, .nil => .nil
  | _, _, .cons h t => .cons (Rp.up e h) (RpAll.up e t)
theorem RpAll.length {K : Kf} {B : List Addr} {G H : Hp} : ∀ {ds : List D} {vs : List V}, RpAll K B G H ds vs → ds.length = vs.length
  | _, _, .nil => rfl
  | _, _, .cons _ t => by rw [List.length_cons, List.length_cons, RpAll.length t]

def lE (K : Kf) (B : List Addr) (H0 : Hp) (de : DE) : TE := fun σ H Q => ∃ (G : Hp) (S : Slots) (post : D → Prop), Sl K B H0 S σ G H ∧ de S post ∧ ∀ v d G' H', Stp K B G H G' H' → Rp K B G' H' d v → post d → Q v H'
def lT (K : Kf) (B : List Addr) (H0 : Hp) (dt : DT) : TT := fun σ H Q => ∃ (G : Hp) (S : Slots) (post : Bool → Prop), Sl K B H0 S σ G H ∧ dt S post ∧ ∀ b G' H', Stp K B G H G' H' → post b → Q b H'
def lA (K : Kf) (B : List Addr) (H0 : Hp) (da : DA) : TA := fun σ H Q => ∃ (G : Hp) (S : Slots) (post : List D → Prop), Sl K B H0 S σ G H ∧ da S post ∧ ∀ vs ds G' H', Stp K B G H G' H' → RpAll K B G' H' ds vs → post ds → Q vs H'
/-- a block's end: the slots known -/
def nxOf (K : Kf) (B : List Addr) (G0 H0 : Hp) (P : Slots → Prop) (σ : L2.St) (H : Hp) : Prop := ∃ (G : Hp) (S : Slots), Sl K B H0 S σ G H ∧ Old B G0 H0 G H ∧ P S
def rtOf (K : Kf) (B : List Addr) (G0 H0 : Hp) (P : D → Prop) (v : V) (H : Hp) : Prop := ∃ (G : Hp) (d : D), Wd K B G H ∧ Old B G0 H0 G H ∧ Rp K B G H d v ∧ (d.own → ∀ p, v = .ref p → H0 p = none) ∧ P d
def lS (K : Kf) (B : List Addr) (H0 : Hp) (ds : DS) : TS := fun D σ H => ∃ (G0 : Hp) (E : DEnds), nxOf K B G0 H0 (ds E) σ H ∧
  (∀ σ' H', nxOf K B G0 H0 E.nx σ' H' → D.nx σ' H') ∧ (∀ v H', rtOf K B G0 H0 E.rt v H' → D.rt v H') ∧ (∀ σ' H', nxOf K B G0 H0 E.bk σ' H' → D.bk σ' H') ∧ (∀ σ' H', nxOf K B G0 H0 E.ct σ' H' → D.ct σ' H')

theorem PEmono {X : Cx} {e : Expr} {t t' : TE} (h : PE X e t) (m : ∀ σ H Q, t' σ H Q → t σ H Q) : PE X e t' := ⟨fun pins s σ H Q I q => h.run pins s σ H Q I (m σ H Q q)⟩
theorem PTmono {X : Cx} {e : Expr} {t t' : TT} (h : PT X e t) (m : ∀ σ H Q, t' σ H Q → t σ H Q) : PT X e t' := ⟨fun pins s σ H Q I q => h.run pins s σ H Q I (m σ H Q q)⟩
theorem PWmono {X : Cx} {e : Expr} {t t' : TT} (h : PW X e t) (m : ∀ σ H Q, t' σ H Q → t σ H Q) : PW X e t' := ⟨fun w pins s σ H Q I q => h.run w pins s σ H Q I (m σ H Q q)⟩
theorem PAmono {X : Cx} {e : List Expr} {t t' : TA} (h : PA X e t) (m : ∀ σ H Q, t' σ H Q → t σ H Q) : PA X e t' := ⟨fun pos pins s σ H Q I q => h.run pos pins s σ H Q I (m σ H Q q)⟩
theorem PSmono {X : Cx} {e : Stmt} {t t' : TS} (h : PS X e t) (m : ∀ D σ H, t' D σ H → t D σ H) : PS X e t' := ⟨fun pins s σ H D I q => h.run pins s σ H D I (m D σ H q)⟩
theorem PSsmono {X : Cx} {e : List Stmt} {t t' : TS} (h : PSs X e t) (m : ∀ D σ H, t' D σ H → t D σ H) : PSs X e t' := ⟨fun pins s σ H D I q => h.run pins s σ H D I (m D σ H q)⟩
theorem PImono {X : Cx} {tg e : Expr} {t t' : TI} (h : PI X tg e t) (m : ∀ σ H R, t' σ H R → t σ H R) : PI X tg e t' := ⟨fun pins s σ H R I q => h.run pins s σ H R I (m σ H R q)⟩
end DL
/- ==== DLb ==== -/
/-! DLb: expressions over data. -/
namespace DL
open PySem PySem.Spec PyProof.Rows L2

abbrev PD (X : Cx) (B : List Addr) (H0 : Hp) (e : Expr) (de : DE) : Prop := PE X e (lE X.K B H0 de)
abbrev PDT (X : Cx) (B : List Addr) (H0 : Hp) (e : Expr) (dt : DT) : Prop := PT X e (lT X.K B H0 dt)
abbrev PDW (X : Cx) (B : List Addr) (H0 : Hp) (e : Expr) (dt : DT) : Prop := PW X e (lT X.K B H0 dt)
abbrev PDA (X : Cx) (B : List Addr) (H0 : Hp) (es : List Expr) (da : DA) : Prop := PA X es (lA X.K B H0 da)

/-- an operation on values does what one on data does -/
def OpD (K : Kf) (B : List Addr) (r : R2) (f : D → D → (D → Prop) → Prop) : Prop := ∀ (G H : Hp) (x y : V) (dx dy : D) (post : D → Prop) (Q : VK), Wd K B G H → Rp K B G H dx x → Rp K B G H dy y → f dx dy post →
  (∀ v d G' H', Stp K B G H G' H' → Rp K B G' H' d v → post d → Q v H') → r x y H Q
def CallD (K : Kf) (B : List Addr) (r : List V → Hp → VK → Prop) (f : List D → (D → Prop) → Prop) : Prop := ∀ (G H : Hp) (xs : List V) (dxs : List D) (post : D → Prop) (Q : VK), Wd K B G H → RpAll K B G H dxs xs → f dxs post →
  (∀ v d G' H', Stp K B G H G' H' → Rp K B G' H' d v → post d → Q v H') → r xs H Q

def dVar (i : Nat) : DE := fun S post => match S[i]? with
  | some (some d) => post d
  | _ => False
def dC (d : D) : DE := fun _ post => post d
def dOp (f : D → D → (D → Prop) → Prop) (a b : DE) : DE := fun S post => a S fun x => b S fun y => f x y post
def dUn (f : D → (D → Prop) → Prop) (a : DE) : DE := fun S post => a S fun x => f x post
def dB (a : DE) : DT := fun S post => a S fun x => match x with
  | .py (.bool b) => post b
  | _ => False
def dAnd (t u : DT) : DT := fun S post => t S fun c => if c = true then u S post else post false
def dOr (t u : DT) : DT := fun S post => t S fun c => if c = true then post true else u S post
def dNot (t : DT) : DT := fun S post => t S fun c => post (!c)
def dAndV (a b : DE) : DE := fun S post => a S fun x => match x with
  | .py (.bool c) => if c = true then b S post else post (.py (.bool false))
  | _ => False
def dOrV (a b : DE) : DE := fun S post => a S fun x => match x with
  | .py (.bool c) => if c = true then post (.py (.bool true)) else b S post
  | _ => False
def dNotV (a : DE) : DE := fun S post => a S fun x => match x with
  | .py (.bool c) => post (.py (.bool (!c)))
  | _ => False
def dIf (t : DT) (a b : DE) : DE := fun S post => t S fun c => if c = true then a S post else b S post
def dNil : DA := fun _ post => post []
def dCons (a : DE) (r : DA) : DA := fun S post => a S fun x => r S fun xs => post (x :: xs)
def dChain (f g : D → D → (D → Prop) → Prop) (a b c : DE) : DE := fun S post => a S fun x => b S fun y => f x y fun z => match z with
  | .py (.bool k) => if k = true then c S fun w => g y w post else post (.py (.bool false))
  | _ => False
/-- plain data of each -/
def pys : List D → Option (List PyData)
  | [] => some []
  | .py d :: r => (pys r).map (d :: ·)
  | _ :: _ => none
def dTup (a : DA) : DE := fun S post => a S fun xs => match pys xs with
  | some ds => ds.length ≤ 1000 ∧ post (.py (.tuple ds))
  | none => False
def dLst (a : DA) : DE := fun S post => a S fun xs => match pys xs with
  | some ds => ds.length ≤ 1000 ∧ post (.py (.list ds))
  | none => False
def dCB (f : List D → (D → Prop) → Prop) (a : DA) : DE := fun S post => a S fun xs => f xs post

theorem Rp.ofDt {K : Kf} {B : List Addr} {G H : Hp} {d : PyData} {v : V} (h : Dt K G v d) : Rp K B G H (.py d) v := h
theorem Rp.bl {K : Kf} {B : List Addr} {G H : Hp} (b : Bool) : Rp K B G H (.py (.bool b)) (.bl b) := Dt.bl b
theorem Rp.int {K : Kf} {B : List Addr} {G H : Hp} (b : Int) : Rp K B G H (.py (.int b)) (.int b) := Dt.int b
theorem Rp.str {K : Kf} {B : List Addr} {G H : Hp} (b : Str) : Rp K B G H (.py (.str b)) (.str b) := Dt.str b
theorem Rp.non {K : Kf} {B : List Addr} {G H : Hp} : Rp K B G H (.py .none) .non := Dt.non
theorem sz1000 {n : Nat} (h : n ≤ 1000) : n ≤ sizeLine := Nat.le_trans h (by decide)
theorem szM {n : Nat} (h : n ≤ 16000000) : n ≤ sizeLine := Nat.le_trans h (by decide)
theorem szL {n : Nat} (h : n < 16000000) : n < sizeLine := Nat.lt_of_lt_of_le h (by decide)

section
variable {X : Cx} {B : List Addr} {H0 : Hp} {a b c e : Expr} {da db dc de : DE} {ta tb : DT} {pos : Pos}

theorem pd_var (i : Nat) {x : Str} (hN : X.N[i]? = some x := by rfl) (hv : Vis X.env.scope x := by first | exact Or.inl rfl | exact Or.inr (Or.inl rfl) | exact Or.inr (Or.inr rfl)) (hd : (x == ("__debug__" : Str)) = false := by decide)
    (hcd : (x == ("__classdict__" : Str)) = false := by decide) : PD X B H0 (.Name x pos) (dVar i) := PEmono (pe_var hN hv hd hcd) fun σ H Q ⟨G, S, post, hs, hd, hq⟩ => by
  unfold dVar at hd
  split at hd
  · next d e =>
    obtain ⟨v, h1, h2, _⟩ := hs.slot i d e
    exact ⟨v, h1, hq v d G H (Stp.refl hs.wd) h2 hd⟩
  · exact hd.elim
theorem pd_c {e : Expr} {d : PyData} {v : V} (h : PE X e (tC v)) (hv : ∀ G, Dt X.K G v d) : PD X B H0 e (dC (.py d)) := PEmono h fun σ H Q ⟨G, S, post, hs, hd, hq⟩ => hq v (.py d) G H (Stp.refl hs.wd) (hv G) hd
theorem pd_int {i : Int} {j} : PD X B H0 (.Constant (.int i) j pos) (dC (.py (.int i))) := pd_c pe_int fun _ => .int i
theorem pd_bl {i : Bool} {j} : PD X B H0 (.Constant (.bool i) j pos) (dC (.py (.bool i))) := pd_c pe_bl fun _ => .bl i
theorem pd_str {i : Str} {j} : PD X B H0 (.Constant (.str i) j pos) (dC (.py (.str i))) := pd_c pe_str fun _ => .str i
theorem pd_non {j} : PD X B H0 (.Constant .none j pos) (dC (.py .none)) := pd_c pe_non fun _ => .non
/-- a module's constant -/
theorem pd_globI {x : Str} {i : Int} (hg : Gl X x) (hm : ∃ t, X.mg x = some (.int i t)) (hd : (x == ("__debug__" : Str)) = false := by decide) : PD X B H0 (.Name x pos) (dC (.py (.int i))) :=
  let ⟨t, h⟩ := hm; pd_c (pe_glob (v := V.int i) hg h ⟨t, rfl⟩ hd) fun _ => .int i
theorem pd_globS {x : Str} {z : Str} (hg : Gl X x) (hm : ∃ t, X.mg x = some (.str z t)) (hd : (x == ("__debug__" : Str)) = false := by decide) : PD X B H0 (.Name x pos) (dC (.py (.str z))) :=
  let ⟨t, h⟩ := hm; pd_c (pe_glob (v := V.str z) hg h ⟨t, rfl⟩ hd) fun _ => .str z

theorem lift2 {r : R2} {f : D → D → (D → Prop) → Prop} (hf : OpD X.K B r f) {σ : L2.St} {H : Hp} {Q : VK} (h : lE X.K B H0 (dOp f da db) σ H Q) : tOp r (lE X.K B H0 da) (lE X.K B H0 db) σ H Q := by
  obtain ⟨G, S, post, hs, hd, hq⟩ := h
  refine ⟨G, S, _, hs, hd, fun x dx G1 H1 s1 r1 p1 => ⟨G1, S, _, hs.step s1, p1, fun y dy G2 H2 s2 r2 p2 => ?_⟩⟩
  exact hf G2 H2 x y dx dy post Q s2.wd (Rp.up s2.toOld r1) r2 p2 fun v d G' H' s3 r3 p3 => hq v d G' H' (s1.trans (s2.trans s3)) r3 p3
theorem pd_op {op : Operator} {r : R2} {f : D → D → (D → Prop) → Prop} (ho : OpR X (binaryOp op) r) (hf : OpD X.K B r f) (ha : PD X B H0 a da) (hb : PD X B H0 b db) : PD X B H0 (.BinOp a op b pos) (dOp f da db) :=
  PEmono (pe_op ho ha hb) fun _ _ _ h => lift2 hf h
theorem pd_cmp {op : CmpOp} {r : R2} {f : D → D → (D → Prop) → Prop} (ho : OpR X (compareOp op) r) (hf : OpD X.K B r f) (ha : PD X B H0 a da) (hb : PD X B H0 b db) (hm : behindInMarks op b = false) : PD X B H0 (.Compare a [op] [b] pos) (dOp f da db) :=
  PEmono (pe_cmpR ho ha hb hm) fun _ _ _ h => lift2 hf h
theorem liftB {t : TE} {de : DE} (h : ∀ σ H Q, lE X.K B H0 de σ H Q → t σ H Q) {σ : L2.St} {H : Hp} {Q : Bool → Hp → Prop} (q : lT X.K B H0 (dB de) σ H Q) : t σ H (fun x H' => ∃ k, x = .bl k ∧ Q k H') := by
  obtain ⟨G, S, post, hs, hd, hq⟩ := q
  refine h σ H _ ⟨G, S, _, hs, hd, fun v d G' H' s1 r1 p1 => ?_⟩
  split at p1
  · next b => cases r1; exact ⟨b, rfl, hq b G' H' s1 p1⟩
  · exact p1.elim
theorem pdt_cmp {op : CmpOp} {r : R2} {f : D → D → (D → Prop) → Prop} (ho : OpR X (compareOp op) r) (hf : OpD X.K B r f) (ha : PD X B H0 a da) (hb : PD X B H0 b db) (hm : behindInMarks op b = false) : PDT X B H0 (.Compare a [op] [b] pos) (dB (dOp f da db)) :=
  PTmono (pt_cmpR ho ha hb hm) fun _ _ _ h => liftB (fun _ _ _ z => lift2 hf z) h
theorem pdt_val (h : PD X B H0 e de) (he : ∀ whole, isTrue e X.env whole = (do let v ← whole; standAt e.pos; holding [v] (truthy v)) := by intro _; rfl) : PDT X B H0 e (dB de) :=
  PTmono (pt_val h he) fun _ _ _ q => liftB (fun _ _ _ z => z) q
theorem liftChain {r r' : R2} {f g : D → D → (D → Prop) → Prop} (hf : OpD X.K B r f) (hg : OpD X.K B r' g) {σ : L2.St} {H : Hp} {Q : VK} (h : lE X.K B H0 (dChain f g da db dc) σ H Q) : tChain r r' (lE X.K B H0 da) (lE X.K B H0 db) (lE X.K B H0 dc) σ H Q := by
  obtain ⟨G, S, post, hs, hd, hq⟩ := h
  refine ⟨G, S, _, hs, hd, fun x dx G1 H1 s1 r1 p1 => ⟨G1, S, _, hs.step s1, p1, fun y dy G2 H2 s2 r2 p2 => ?_⟩⟩
  refine hf G2 H2 x y dx dy _ _ s2.wd (Rp.up s2.toOld r1) r2 p2 fun v d G3 H3 s3 r3 p3 => ?_
  split at p3
  · next k =>
    cases r3
    refine ⟨k, rfl, ?_⟩
    cases k with
    | true =>
      rw [if_pos rfl] at p3 ⊢
      refine ⟨G3, S, _, (hs.step (s1.trans (s2.trans s3))), p3, fun w dw G4 H4 s4 r4 p4 => ?_⟩
      exact hg G4 H4 y w dy dw post Q s4.wd (Rp.up (s3.trans s4).toOld r2) r4 p4 fun v d G' H' s5 r5 p5 => hq v d G' H' (s1.trans (s2.trans (s3.trans (s4.trans s5)))) r5 p5
    | false =>
      rw [if_neg Bool.false_ne_true] at p3 ⊢
      exact hq _ _ G3 H3 (s1.trans (s2.trans s3)) (Rp.bl _) p3
  · exact p3.elim
theorem pd_chain {op op' : CmpOp} {r r' : R2} {f g : D → D → (D → Prop) → Prop} (ho : OpR X (compareOp op) r) (ho' : OpR X (compareOp op') r') (hf : OpD X.K B r f) (hg : OpD X.K B r' g) (ha : PD X B H0 a da) (hb : PD X B H0 b db) (hc : PD X B H0 c dc)
    (h1 : lastMarks [op, op'] [b, c] = false := by rfl) : PD X B H0 (.Compare a [op, op'] [b, c] pos) (dChain f g da db dc) :=
  PEmono (pe_chain ho ho' ha hb hc h1) fun _ _ _ h => liftChain hf hg h
theorem pdt_chain {op op' : CmpOp} {r r' : R2} {f g : D → D → (D → Prop) → Prop} (ho : OpR X (compareOp op) r) (ho' : OpR X (compareOp op') r') (hf : OpD X.K B r f) (hg : OpD X.K B r' g) (ha : PD X B H0 a da) (hb : PD X B H0 b db) (hc : PD X B H0 c dc)
    (h1 : lastMarks [op, op'] [b, c] = false := by rfl) : PDT X B H0 (.Compare a [op, op'] [b, c] pos) (dB (dChain f g da db dc)) :=
  PTmono (pt_chain ho ho' ha hb hc h1) fun _ _ _ h => liftB (fun _ _ _ z => liftChain hf hg z) h
theorem liftIf {α : Type} {P : Bool → Prop} {k : Bool} : True := trivial
theorem pdt_not (ha : PDT X B H0 a ta) : PDT X B H0 (.UnaryOp .Not a pos) (dNot ta) := PTmono (pt_not ha) fun σ H Q ⟨G, S, post, hs, hd, hq⟩ => ⟨G, S, _, hs, hd, fun k G' H' s1 p1 => hq _ G' H' s1 p1⟩
theorem lift_and {σ : L2.St} {H : Hp} {Q : Bool → Hp → Prop} (h : lT X.K B H0 (dAnd ta tb) σ H Q) : tAnd (lT X.K B H0 ta) (lT X.K B H0 tb) σ H Q := by
  obtain ⟨G, S, post, hs, hd, hq⟩ := h
  refine ⟨G, S, _, hs, hd, fun k G1 H1 s1 p1 => ?_⟩
  cases k with
  | true =>
    rw [if_pos rfl] at p1 ⊢
    exact ⟨G1, S, post, hs.step s1, p1, fun b G' H' s2 p2 => hq b G' H' (s1.trans s2) p2⟩
  | false =>
    rw [if_neg Bool.false_ne_true] at p1 ⊢
    exact hq false G1 H1 s1 p1
theorem lift_or {σ : L2.St} {H : Hp} {Q : Bool → Hp → Prop} (h : lT X.K B H0 (dOr ta tb) σ H Q) : tOr (lT X.K B H0 ta) (lT X.K B H0 tb) σ H Q := by
  obtain ⟨G, S, post, hs, hd, hq⟩ := h
  refine ⟨G, S, _, hs, hd, fun k G1 H1 s1 p1 => ?_⟩
  cases k with
  | true =>
    rw [if_pos rfl] at p1 ⊢
    exact hq true G1 H1 s1 p1
  | false =>
    rw [if_neg Bool.false_ne_true] at p1 ⊢
    exact ⟨G1, S, post, hs.step s1, p1, fun b G' H' s2 p2 => hq b G' H' (s1.trans s2) p2⟩
variable {rest : List Expr}
theorem pdw_and (ha : PDT X B H0 a ta) (hb : PDW X B H0 (.BoolOp .And (b :: rest) pos) tb) : PDW X B H0 (.BoolOp .And (a :: b :: rest) pos) (dAnd ta tb) := PWmono (pw_and ha hb) fun _ _ _ h => lift_and h
theorem pdw_and1 (ha : PDT X B H0 a ta) : PDW X B H0 (.BoolOp .And [a] pos) ta := pw_and1 ha
theorem pdw_or (ha : PDT X B H0 a ta) (hb : PDW X B H0 (.BoolOp .Or (b :: rest) pos) tb) : PDW X B H0 (.BoolOp .Or (a :: b :: rest) pos) (dOr ta tb) := PWmono (pw_or ha hb) fun _ _ _ h => lift_or h
theorem pdw_or1 (ha : PDT X B H0 a ta) : PDW X B H0 (.BoolOp .Or [a] pos) ta := pw_or1 ha
theorem PDW.t (h : PDW X B H0 e ta) : PDT X B H0 e ta := PW.pt h
theorem pd_and (ha : PD X B H0 a da) (hb : PD X B H0 (.BoolOp .And (b :: rest) pos) db) : PD X B H0 (.BoolOp .And (a :: b :: rest) pos) (dAndV da db) := PEmono (pe_and ha hb) fun σ H Q ⟨G, S, post, hs, hd, hq⟩ => by
  refine ⟨G, S, _, hs, hd, fun v d G1 H1 s1 r1 p1 => ?_⟩
  split at p1
  · next k =>
    cases r1
    refine ⟨k, rfl, ?_⟩
    cases k with
    | true =>
      rw [if_pos rfl] at p1 ⊢
      exact ⟨G1, S, post, hs.step s1, p1, fun v d G' H' s2 r2 p2 => hq v d G' H' (s1.trans s2) r2 p2⟩
    | false =>
      rw [if_neg Bool.false_ne_true] at p1 ⊢
      exact hq _ _ G1 H1 s1 (Rp.bl _) p1
  · exact p1.elim
theorem pd_or (ha : PD X B H0 a da) (hb : PD X B H0 (.BoolOp .Or (b :: rest) pos) db) : PD X B H0 (.BoolOp .Or (a :: b :: rest) pos) (dOrV da db) := PEmono (pe_or ha hb) fun σ H Q ⟨G, S, post, hs, hd, hq⟩ => by
  refine ⟨G, S, _, hs, hd, fun v d G1 H1 s1 r1 p1 => ?_⟩
  split at p1
  · next k =>
    cases r1
    refine ⟨k, rfl, ?_⟩
    cases k with
    | true =>
      rw [if_pos rfl] at p1 ⊢
      exact hq _ _ G1 H1 s1 (Rp.bl _) p1
    | false =>
      rw [if_neg Bool.false_ne_true] at p1 ⊢
      exact ⟨G1, S, post, hs.step s1, p1, fun v d G' H' s2 r2 p2 => hq v d G' H' (s1.trans s2) r2 p2⟩
  · exact p1.elim
theorem pd_one {op} (h : PD X B H0 a da) : PD X B H0 (.BoolOp op [a] pos) da := pe_one h
theorem pd_not (ha : PD X B H0 a da) : PD X B H0 (.UnaryOp .Not a pos) (dNotV da) := PEmono (pe_not ha) fun σ H Q ⟨G, S, post, hs, hd, hq⟩ => by
  refine ⟨G, S, _, hs, hd, fun v d G1 H1 s1 r1 p1 => ?_⟩
  split at p1
  · next k =>
    cases r1
    exact ⟨k, rfl, hq _ _ G1 H1 s1 (Rp.bl _) p1⟩
  · exact p1.elim
theorem pd_ifExp {c : Expr} (hc : PDT X B H0 c ta) (ha : PD X B H0 a da) (hb : PD X B H0 b db) : PD X B H0 (.IfExp c a b pos) (dIf ta da db) := PEmono (pe_ifExp hc ha hb) fun σ H Q ⟨G, S, post, hs, hd, hq⟩ => by
  refine ⟨G, S, _, hs, hd, fun k G1 H1 s1 p1 => ?_⟩
  cases k with
  | true =>
    rw [if_pos rfl] at p1 ⊢
    exact ⟨G1, S, post, hs.step s1, p1, fun v d G' H' s2 r2 p2 => hq v d G' H' (s1.trans s2) r2 p2⟩
  | false =>
    rw [if_neg Bool.false_ne_true] at p1 ⊢
    exact ⟨G1, S, post, hs.step s1, p1, fun v d G' H' s2 r2 p2 => hq v d G' H' (s1.trans s2) r2 p2⟩
variable {es : List Expr} {ra : DA}
theorem pda_nil : PDA X B H0 [] dNil := PAmono pa_nil fun σ H Q ⟨G, S, post, hs, hd, hq⟩ => hq [] [] G H (Stp.refl hs.wd) .nil hd
theorem pda_cons (ha : PD X B H0 e de) (hr : PDA X B H0 es ra) (hs : starEach (e :: es) X.env = (false, eval e X.env) :: starEach es X.env := by rfl) : PDA X B H0 (e :: es) (dCons de ra) := PAmono (pa_cons ha hr hs) fun σ H Q ⟨G, S, post, hs, hd, hq⟩ =>
  ⟨G, S, _, hs, hd, fun v d G1 H1 s1 r1 p1 => ⟨G1, S, _, hs.step s1, p1, fun vs ds G2 H2 s2 r2 p2 => hq _ _ G2 H2 (s1.trans s2) (.cons (Rp.up s2.toOld r1) r2) p2⟩⟩
theorem pys_all {K : Kf} {G H : Hp} : ∀ {xs : List D} {vs : List V} {ds : List PyData}, RpAll K B G H xs vs → pys xs = some ds → DtAll K G vs ds
  | _, _, _, .nil, h => by cases h; exact .nil
  | .py d :: r, _, ds, .cons h t, e => by
    unfold pys at e
    cases q : pys r with
    | none => rw [q] at e; cases e
    | some es => rw [q] at e; cases e; exact .cons h (pys_all t q)
  | .raw _ :: _, _, _, .cons _ _, e => by cases e
  | .ol _ :: _, _, _, .cons _ _, e => by cases e
  | .od _ :: _, _, _, .cons _ _, e => by cases e
  | .dic _ :: _, _, _, .cons _ _, e => by cases e
  | .ins _ _ _ :: _, _, _, .cons _ _, e => by cases e
  | .fn _ :: _, _, _, .cons _ _, e => by cases e
  | .lk _ :: _, _, _, .cons _ _, e => by cases e
  | .ex _ _ _ :: _, _, _, .cons _ _, e => by cases e
theorem pys_len : ∀ {xs : List D} {ds : List PyData}, pys xs = some ds → ds.length = xs.length
  | [], _, h => by cases h; rfl
  | .py d :: r, ds, e => by
    unfold pys at e
    cases q : pys r with
    | none => rw [q] at e; cases e
    | some es => rw [q] at e; cases e; rw [List.length_cons, List.length_cons, pys_len q]
  | .raw _ :: _, _, e => by cases e
  | .ol _ :: _, _, e => by cases e
  | .od _ :: _, _, e => by cases e
  | .dic _ :: _, _, e => by cases e
  | .ins _ _ _ :: _, _, e => by cases e
  | .fn _ :: _, _, e => by cases e
  | .lk _ :: _, _, e => by cases e
  | .ex _ _ _ :: _, _, e => by cases e
theorem Dt.newT {K : Kf} {G : Hp} {p : Addr} {vs : List V} {ds : List PyData} (hg : G p = none) (h : DtAll K G vs ds) : Dt K (upd G p (.tup vs)) (.ref p) (.tuple ds) := .tup (SqT.of upd_same) (DtAll.up (Same.updN hg) h)
theorem Dt.newL {K : Kf} {G : Hp} {p : Addr} {vs : List V} {ds : List PyData} (hg : G p = none) (h : DtAll K G vs ds) : Dt K (upd G p (.lst vs)) (.ref p) (.list ds) := .lst upd_same (DtAll.up (Same.updN hg) h)
theorem pd_tup {x1} (h : PDA X B H0 es ra) : PD X B H0 (.Tuple es x1 pos) (dTup ra) := PEmono (pe_tup h) fun σ H Q ⟨G, S, post, hs, hd, hq⟩ => by
  refine ⟨G, S, _, hs, hd, fun vs xs G1 H1 s1 r1 p1 => ?_⟩
  split at p1
  · next ds e =>
    obtain ⟨hl, p1⟩ := p1
    refine ⟨sz1000 (by rw [← r1.length, ← pys_len e]; exact hl), fun p hp => ?_⟩
    exact hq _ _ _ _ (s1.trans (Stp.new s1.wd hp _)) (Rp.ofDt (Dt.newT (s1.wd.sub.free hp) (pys_all r1 e))) p1
  · exact p1.elim
theorem pd_lst (h : PDA X B H0 es ra) : PD X B H0 (.List es pos) (dLst ra) := PEmono (pe_lst h) fun σ H Q ⟨G, S, post, hs, hd, hq⟩ => by
  refine ⟨G, S, _, hs, hd, fun vs xs G1 H1 s1 r1 p1 => ?_⟩
  split at p1
  · next ds e =>
    obtain ⟨hl, p1⟩ := p1
    refine ⟨sz1000 (by rw [← r1.length, ← pys_len e]; exact hl), fun p hp => ?_⟩
    exact hq _ _ _ _ (s1.trans (Stp.new s1.wd hp _)) (Rp.ofDt (Dt.newL (s1.wd.sub.free hp) (pys_all r1 e))) p1
  · exact p1.elim
theorem liftCB {r : List V → Hp → VK → Prop} {f : List D → (D → Prop) → Prop} (hf : CallD X.K B r f) {σ : L2.St} {H : Hp} {Q : VK} (h : lE X.K B H0 (dCB f ra) σ H Q) : tCB r (lA X.K B H0 ra) σ H Q := by
  obtain ⟨G, S, post, hs, hd, hq⟩ := h
  exact ⟨G, S, _, hs, hd, fun vs xs G1 H1 s1 r1 p1 => hf G1 H1 vs xs post Q s1.wd r1 p1 fun v d G' H' s2 r2 p2 => hq v d G' H' (s1.trans s2) r2 p2⟩
variable {x : Str} {p : Pos} {id T : String} {r : List V → Hp → VK → Prop} {f : List D → (D → Prop) → Prop}
theorem pd_callB (hc : CallR X (.builtin id) r) (hf : CallD X.K B r f) (hg : Gl X x) (hm : X.mg x = none) (hv : bootBuiltins x = some (.builtin id)) (ha : PDA X B H0 (e :: es) ra) (hn : x ≠ "__name__" := by decide) (hdb : (x == ("__debug__" : Str)) = false := by decide)
    (he : starEach (e :: es) X.env = (false, eval e X.env) :: starEach es X.env := by rfl) (hpl : (backTo pos (starEach es X.env)).any (·.1) = false := by rfl) : PD X B H0 (.Call (.Name x p) (e :: es) [] pos) (dCB f ra) :=
  PEmono (pe_callB hc hg hm hv ha hn hdb he hpl) fun _ _ _ h => liftCB hf h
theorem pd_callTy (hc : CallR X (.type T) r) (hf : CallD X.K B r f) (hg : Gl X x) (hm : X.mg x = none) (hv : bootBuiltins x = some (.type T)) (ha : PDA X B H0 (e :: es) ra) (hn : x ≠ "__name__" := by decide) (hdb : (x == ("__debug__" : Str)) = false := by decide)
    (he : starEach (e :: es) X.env = (false, eval e X.env) :: starEach es X.env := by rfl) (hpl : (backTo pos (starEach es X.env)).any (·.1) = false := by rfl) : PD X B H0 (.Call (.Name x p) (e :: es) [] pos) (dCB f ra) :=
  PEmono (pe_callTy hc hg hm hv ha hn hdb he hpl) fun _ _ _ h => liftCB hf h

/-! ### defs -/
/-- what a def does with data; B: the bags -/
abbrev Ct := List Addr → List D → (D → Prop) → Prop
def spD (K : Kf) (C : Ct) : Sp := fun vs H Q _ => ∃ (B : List Addr) (G : Hp) (ds : List D) (post : D → Prop), Wd K B G H ∧ RpAll K B G H ds vs ∧ C B ds post ∧ ∀ v d G' H', Stp K B G H G' H' → Rp K B G' H' d v → post d → Q v H'
def dCall (B : List Addr) (C : Ct) (a : DA) : DE := fun S post => a S fun xs => C B xs post
theorem pd_call {CX : CXT} {k : Nat} {f : Addr} {fd : FuncData} {ps : List Str} {C : Ct} {E : XK} (F : FnOk X.prog X.w X.K X.mg X.base CX k f fd ps (spD X.K C)) (hr : Room k X.A) (hg : Gl X x) (hm : X.mg x = some (.ref f)) (hk : PySem.W.keepIn X.K (.ref f) = true) (hb : Binds X.K fd ps [])
    (hx : Passes CX X E) (ha : PDA X B H0 (e :: es) ra) (hdb : (x == ("__debug__" : Str)) = false := by decide) (he : starEach (e :: es) X.env = (false, eval e X.env) :: starEach es X.env := by rfl) (hpl : (backTo pos (starEach es X.env)).any (·.1) = false := by rfl) :
    PD X B H0 (.Call (.Name x p) (e :: es) [] pos) (dCall B C ra) :=
  PEmono (pe_call F hr hg hm hk hb .nil hx ha hdb he hpl) fun σ H Q ⟨G, S, post, hs, hd, hq⟩ =>
    ⟨G, S, _, hs, hd, fun vs xs G1 H1 s1 r1 p1 => by
      show spD X.K C (vs ++ []) H1 Q E
      rw [List.append_nil]
      exact ⟨B, G1, xs, post, s1.wd, r1, p1, fun v d G' H' s2 r2 p2 => hq v d G' H' (s1.trans s2) r2 p2⟩⟩
end
end DL
/- ==== DLc ==== -/
/-! DLc: operations over data. -/
namespace DL
open PySem PySem.Spec PyProof.Rows L2

def fI (g : Int → Int → PyData) : D → D → (D → Prop) → Prop := fun x y post => match x, y with
  | .py (.int i), .py (.int j) => post (.py (g i j))
  | _, _ => False
def fIc (C : Int → Int → Prop) (g : Int → Int → PyData) : D → D → (D → Prop) → Prop := fun x y post => match x, y with
  | .py (.int i), .py (.int j) => C i j ∧ post (.py (g i j))
  | _, _ => False
/-- plain data, an own list read as such -/
def D.py? : D → Option PyData
  | .py d => some d
  | .ol ds => some (.list ds)
  | _ => none
theorem Rp.py? {K : Kf} {B : List Addr} {G H : Hp} (w : Wd K B G H) {d : D} {v : V} {q : PyData} (h : Rp K B G H d v) (e : d.py? = some q) : Dt K H v q := by
  cases d with
  | py d => cases e; exact Dt.up w.sub h
  | ol ds => cases e; obtain ⟨p, vs, rfl, _, h2, h3⟩ := h; exact .lst h2 (DtAll.up w.sub h3)
  | _ => cases e
def fAdd : D → D → (D → Prop) → Prop := fun x y post => match x, y with
  | .py (.int i), .py (.int j) => post (.py (.int (i + j)))
  | .py (.list a), .py (.list b) => a.length + b.length ≤ 16000000 ∧ post (.py (.list (a ++ b)))
  | .py (.tuple a), .py (.tuple b) => a.length + b.length ≤ 16000000 ∧ post (.py (.tuple (a ++ b)))
  | _, _ => False
def fMul : D → D → (D → Prop) → Prop := fun x y post => match x, y with
  | .py (.int i), .py (.int j) => CMul i j ∧ post (.py (.int (i * j)))
  | _, _ => False
def fEq : D → D → (D → Prop) → Prop := fun x y post => match x.py?, y.py? with
  | some (.int i), some (.int j) => post (.py (.bool (decide (i = j))))
  | some (.str i), some (.str j) => post (.py (.bool (decide (i = j))))
  | some d, some e => SeqAt.shaped d = true ∧ SeqAt.shaped e = true ∧ post (.py (.bool (PyData.eqv d e)))
  | _, _ => False
def fNe : D → D → (D → Prop) → Prop := fun x y post => match x.py?, y.py? with
  | some (.int i), some (.int j) => post (.py (.bool (!decide (i = j))))
  | some (.str i), some (.str j) => post (.py (.bool (!decide (i = j))))
  | some d, some e => SeqAt.shaped d = true ∧ SeqAt.shaped e = true ∧ post (.py (.bool (!PyData.eqv d e)))
  | _, _ => False
def fLt : D → D → (D → Prop) → Prop := fI fun i j => .bool (decide (i < j))
def fLe : D → D → (D → Prop) → Prop := fI fun i j => .bool (decide (i ≤ j))
def fGt : D → D → (D → Prop) → Prop := fI fun i j => .bool (decide (j < i))
def fGe : D → D → (D → Prop) → Prop := fI fun i j => .bool (decide (j ≤ i))
def fLtS : D → D → (D → Prop) → Prop := fun x y post => match x, y with
  | .py (.str i), .py (.str j) => post (.py (.bool (decide (i.cps.toList < j.cps.toList))))
  | _, _ => False
def fSub : D → D → (D → Prop) → Prop := fI fun i j => .int (i - j)
def fFdiv : D → D → (D → Prop) → Prop := fIc CDiv fun i j => .int (i / j)
def fMod : D → D → (D → Prop) → Prop := fIc (fun _ j => 0 < j) fun i j => .int (i % j)
def isNonD : D → Bool
  | .py .none => true
  | .raw .non => true
  | _ => false
def fIsN : D → D → (D → Prop) → Prop := fun x y post => match y with
  | .py .none => post (.py (.bool (isNonD x)))
  | _ => False
def fNotN : D → D → (D → Prop) → Prop := fun x y post => match y with
  | .py .none => post (.py (.bool (!isNonD x)))
  | _ => False
def fIsB : D → D → (D → Prop) → Prop := fun x y post => match x, y with
  | .py (.bool a), .py (.bool b) => post (.py (.bool (decide (a = b))))
  | _, _ => False
def fNotB : D → D → (D → Prop) → Prop := fun x y post => match x, y with
  | .py (.bool a), .py (.bool b) => post (.py (.bool (!decide (a = b))))
  | _, _ => False
/-- one sign in a text -/
def fInS : D → D → (D → Prop) → Prop := fun x y post => match x, y with
  | .py (.str s), .py (.str z) => ∃ c, s = ⟨#[c]⟩ ∧ post (.py (.bool (decide (c ∈ z.cps.toList))))
  | _, _ => False
def D.items : D → Option (List PyData)
  | .py (.list ds) => some ds
  | .py (.tuple ds) => some ds
  | .ol ds => some ds
  | _ => none
def fIx : D → D → (D → Prop) → Prop := fun x y post => match x.items, y with
  | some ds, .py (.int i) => match atI ds i with
    | some d => post (.py d)
    | none => False
  | _, _ => False
def flatP : PyData → Bool
  | .none => true
  | .bool _ => true
  | .int _ => true
  | .str _ => true
  | _ => false
def eqP : PyData → PyData → Bool := PyData.eqv

section
variable {X : Cx} {K : Kf} {B : List Addr}
theorem stay {K : Kf} {B : List Addr} {G H : Hp} {Q : VK} {post : D → Prop} (w : Wd K B G H) (hq : ∀ v d G' H', Stp K B G H G' H' → Rp K B G' H' d v → post d → Q v H') {v : V} {d : PyData} (h : Dt K G v d) (p : post (.py d)) : Q v H :=
  hq v (.py d) G H (Stp.refl w) h p
theorem od_I0 {v : Int → Int → V} {g : Int → Int → PyData} (h : ∀ i j G, Dt K G (v i j) (g i j)) : OpD K B (rI0 v) (fI g) := fun G H x y dx dy post Q w rx ry hf hq => by
  unfold fI at hf
  split at hf
  · cases rx; cases ry; exact ⟨_, _, rfl, rfl, stay w hq (h _ _ G) hf⟩
  · exact hf.elim
theorem od_I {C : Int → Int → Prop} {v : Int → Int → V} {g : Int → Int → PyData} (h : ∀ i j G, Dt K G (v i j) (g i j)) : OpD K B (rI C v) (fIc C g) := fun G H x y dx dy post Q w rx ry hf hq => by
  unfold fIc at hf
  split at hf
  · cases rx; cases ry; exact ⟨_, _, rfl, rfl, hf.1, stay w hq (h _ _ G) hf.2⟩
  · exact hf.elim
theorem od_lt : OpD K B (rI0 fun i j => .bl (decide (i < j))) fLt := od_I0 fun _ _ _ => .bl _
theorem od_le : OpD K B (rI0 fun i j => .bl (decide (i ≤ j))) fLe := od_I0 fun _ _ _ => .bl _
theorem od_gt : OpD K B (rI0 fun i j => .bl (decide (j < i))) fGt := od_I0 fun _ _ _ => .bl _
theorem od_ge : OpD K B (rI0 fun i j => .bl (decide (j ≤ i))) fGe := od_I0 fun _ _ _ => .bl _
theorem od_sub : OpD K B (rI0 fun i j => .int (i - j)) fSub := od_I0 fun _ _ _ => .int _
theorem od_mul : OpD K B (rI CMul fun i j => .int (i * j)) fMul := fun G H x y dx dy post Q w rx ry hf hq => by
  unfold fMul at hf
  split at hf
  · cases rx; cases ry; exact ⟨_, _, rfl, rfl, hf.1, stay w hq (.int _) hf.2⟩
  · exact hf.elim
theorem od_fdiv : OpD K B (rI CDiv fun i j => .int (i / j)) fFdiv := od_I fun _ _ _ => .int _
theorem od_mod : OpD K B (rI (fun _ j => 0 < j) fun i j => .int (i % j)) fMod := od_I fun _ _ _ => .int _
/-- + of ints, lists, tuples -/
def rAddA (K : Kf) : R2 := fun x y H Q => (rI0 fun i j => .int (i + j)) x y H Q ∨ rCat x y H Q ∨ rCatA K x y H Q
theorem op_addA : OpR X (binaryOp .Add) (rAddA X.K) := by
  intro pins s σ H x y v u Q I rx ry h
  rcases h with h | h | h
  · exact op_add pins s σ H x y v u Q I rx ry h
  · exact op_cat pins s σ H x y v u Q I rx ry h
  · exact op_catA pins s σ H x y v u Q I rx ry h
theorem od_add : OpD K B (rAddA K) fAdd := fun G H x y dx dy post Q w rx ry hf hq => by
  unfold fAdd at hf
  split at hf
  · cases rx; cases ry; exact .inl ⟨_, _, rfl, rfl, stay w hq (.int _) hf⟩
  · next a b =>
    cases rx with
    | lst h1 h2 =>
      cases ry with
      | lst h3 h4 =>
        refine .inr (.inl ⟨_, _, _, _, rfl, rfl, w.sub _ _ h1, w.sub _ _ h3, szM (by rw [h2.length, h4.length]; exact hf.1), fun p hp => ?_⟩)
        exact hq _ _ _ _ (Stp.new w hp _) (Rp.ofDt (Dt.newL (w.sub.free hp) (h2.append h4))) hf.2
  · next a b =>
    cases rx with
    | tup h1 h2 =>
      cases ry with
      | tup h3 h4 =>
        refine .inr (.inr ⟨_, _, _, _, rfl, rfl, SqT.up w.sub h1, SqT.up w.sub h3, szM (by rw [h2.length, h4.length]; exact hf.1), fun e => ?_, fun _ e => ?_, fun _ _ p hp => ?_⟩)
        · subst e; cases h2; exact stay w hq (.tup h3 h4) hf.2
        · subst e; cases h4; refine stay w hq (.tup h1 h2) ?_; rw [List.append_nil] at hf; exact hf.2
        · exact hq _ _ _ _ (Stp.new w hp _) (Rp.ofDt (Dt.newT (w.sub.free hp) (h2.append h4))) hf.2
  · exact hf.elim
theorem OpR.or {f : Value → Value → Sem Value} {r r' : R2} (h : OpR X f r) (h' : OpR X f r') : OpR X f (fun x y H Q => r x y H Q ∨ r' x y H Q) := by
  intro pins s σ H x y v u Q I rx ry q
  rcases q with q | q
  · exact h pins s σ H x y v u Q I rx ry q
  · exact h' pins s σ H x y v u Q I rx ry q
theorem dt_int {G : Hp} {v : V} {i : Int} (h : Dt K G v (.int i)) : v = .int i := by cases h; rfl
theorem dt_str {G : Hp} {v : V} {i : Str} (h : Dt K G v (.str i)) : v = .str i := by cases h; rfl
theorem op_eqA (hu : X.A.units + 64 < cLine) : OpR X (compareOp .Eq) (fun x y H Q => rEq x y H Q ∨ rEqD X.K x y H Q) := op_eq.or (op_eqD hu)
theorem op_neA (hu : X.A.units + 64 < cLine) : OpR X (compareOp .NotEq) (fun x y H Q => rNe x y H Q ∨ rNeD X.K x y H Q) := op_ne.or (op_neD hu)
theorem od_eq : OpD K B (fun x y H Q => rEq x y H Q ∨ rEqD K x y H Q) fEq := fun G H x y dx dy post Q w rx ry hf hq => by
  unfold fEq at hf
  split at hf
  · next i j e1 e2 =>
    cases dt_int (rx.py? w e1); cases dt_int (ry.py? w e2)
    refine .inl ⟨rfl, ?_⟩
    rw [show decide (V.int i = V.int j) = decide (i = j) from dec_int]
    exact stay w hq (.bl _) hf
  · next i j e1 e2 =>
    cases dt_str (rx.py? w e1); cases dt_str (ry.py? w e2)
    refine .inl ⟨rfl, ?_⟩
    rw [show decide (V.str i = V.str j) = decide (i = j) from dec_str]
    exact stay w hq (.bl _) hf
  · next d e _ _ e1 e2 =>
    have h1 := (rx.py? w e1).dp; have h2 := (ry.py? w e2).dp
    exact .inr ⟨_, _, h1, h2, hf.1, hf.2.1, stay w hq (.bl _) hf.2.2⟩
  · exact hf.elim
theorem od_ne : OpD K B (fun x y H Q => rNe x y H Q ∨ rNeD K x y H Q) fNe := fun G H x y dx dy post Q w rx ry hf hq => by
  unfold fNe at hf
  split at hf
  · next i j e1 e2 =>
    cases dt_int (rx.py? w e1); cases dt_int (ry.py? w e2)
    refine .inl ⟨rfl, ?_⟩
    rw [show decide (V.int i = V.int j) = decide (i = j) from dec_int]
    exact stay w hq (.bl _) hf
  · next i j e1 e2 =>
    cases dt_str (rx.py? w e1); cases dt_str (ry.py? w e2)
    refine .inl ⟨rfl, ?_⟩
    rw [show decide (V.str i = V.str j) = decide (i = j) from dec_str]
    exact stay w hq (.bl _) hf
  · next d e _ _ e1 e2 =>
    have h1 := (rx.py? w e1).dp; have h2 := (ry.py? w e2).dp
    exact .inr ⟨_, _, h1, h2, hf.1, hf.2.1, stay w hq (.bl _) hf.2.2⟩
  · exact hf.elim
theorem od_ltS : OpD K B (fun x y H Q => ∃ i j, x = .str i ∧ y = .str j ∧ Q (.bl (decide (i.cps.toList < j.cps.toList))) H) fLtS := fun G H x y dx dy post Q w rx ry hf hq => by
  unfold fLtS at hf
  split at hf
  · cases rx; cases ry; exact ⟨_, _, rfl, rfl, stay w hq (.bl _) hf⟩
  · exact hf.elim
theorem nonD {G H : Hp} {d : D} {v : V} (h : Rp K B G H d v) : decide (v = .non) = isNonD d := by
  cases d with
  | py d => cases h <;> rfl
  | raw u => cases (show v = u from h); cases v <;> rfl
  | ol ds => obtain ⟨p, vs, rfl, _⟩ := h; rfl
  | od ds => obtain ⟨p, vs, rfl, _⟩ := h; rfl
  | dic ds => obtain ⟨p, vs, rfl, _⟩ := h; rfl
  | ins p C ds => obtain ⟨dx, vs, rfl, _⟩ := h; rfl
  | fn L => obtain ⟨f, c, pm, ct, rfl, _⟩ := h; rfl
  | lk L => obtain ⟨p, od, vs, rfl, _⟩ := h; rfl
  | ex a dd fs => obtain ⟨rfl, _⟩ := h; rfl
theorem od_isN : OpD K B (fun x y H Q => y = .non ∧ Q (.bl (decide (x = .non))) H) fIsN := fun G H x y dx dy post Q w rx ry hf hq => by
  unfold fIsN at hf
  split at hf
  · cases ry; exact ⟨rfl, by rw [nonD rx]; exact stay w hq (.bl _) hf⟩
  · exact hf.elim
theorem od_notN : OpD K B (fun x y H Q => y = .non ∧ Q (.bl (!decide (x = .non))) H) fNotN := fun G H x y dx dy post Q w rx ry hf hq => by
  unfold fNotN at hf
  split at hf
  · cases ry; exact ⟨rfl, by rw [nonD rx]; exact stay w hq (.bl _) hf⟩
  · exact hf.elim
theorem od_isB : OpD K B (fun x y H Q => ∃ a b, x = .bl a ∧ y = .bl b ∧ Q (.bl (decide (a = b))) H) fIsB := fun G H x y dx dy post Q w rx ry hf hq => by
  unfold fIsB at hf
  split at hf
  · cases rx; cases ry; exact ⟨_, _, rfl, rfl, stay w hq (.bl _) hf⟩
  · exact hf.elim
theorem od_notB : OpD K B (fun x y H Q => ∃ a b, x = .bl a ∧ y = .bl b ∧ Q (.bl (!decide (a = b))) H) fNotB := fun G H x y dx dy post Q w rx ry hf hq => by
  unfold fNotB at hf
  split at hf
  · cases rx; cases ry; exact ⟨_, _, rfl, rfl, stay w hq (.bl _) hf⟩
  · exact hf.elim
theorem od_inS : OpD K B (fun x y H Q => ∃ (c : Nat) (z : Str), x = .str ⟨#[c]⟩ ∧ y = .str z ∧ Q (.bl (decide (c ∈ z.cps.toList))) H) fInS := fun G H x y dx dy post Q w rx ry hf hq => by
  unfold fInS at hf
  split at hf
  · cases rx; cases ry
    obtain ⟨c, rfl, hf⟩ := hf
    exact ⟨c, _, rfl, rfl, stay w hq (.bl _) hf⟩
  · exact hf.elim
theorem atI_all {G : Hp} {vs : List V} {ds : List PyData} {i : Int} {d : PyData} (h : DtAll K G vs ds) (e : atI ds i = some d) : ∃ v, atI vs i = some v ∧ Dt K G v d := by
  unfold atI at e ⊢
  rw [h.length]
  cases q : ixN ds.length i with
  | none => rw [q] at e; cases e
  | some j =>
    rw [q] at e
    exact h.getD (i := j) e
theorem od_ix : OpD K B (rIx K) fIx := fun G H x y dx dy post Q w rx ry hf hq => by
  unfold fIx at hf
  split at hf
  · next ds i e =>
    split at hf
    · next d ed =>
      cases ry
      cases dx with
      | py q =>
        cases q with
        | list l =>
          cases e
          cases rx with
          | lst h1 h2 =>
            obtain ⟨v, hv, hd⟩ := atI_all h2 ed
            exact .inl ⟨_, _, _, v, rfl, rfl, SqL.of (w.sub _ _ h1), hv, stay w hq hd hf⟩
        | tuple l =>
          cases e
          cases rx with
          | tup h1 h2 =>
            obtain ⟨v, hv, hd⟩ := atI_all h2 ed
            exact .inr (.inl ⟨_, _, _, v, rfl, rfl, SqT.up w.sub h1, hv, stay w hq hd hf⟩)
        | _ => cases e
      | ol l =>
        cases e
        obtain ⟨p, vs, rfl, _, h1, h2⟩ := rx
        obtain ⟨v, hv, hd⟩ := atI_all h2 ed
        exact .inl ⟨_, _, _, v, rfl, rfl, SqL.of h1, hv, stay w hq hd hf⟩
      | _ => cases e
    · exact hf.elim
  · exact hf.elim
variable {H0 : Hp} {a b : Expr} {da db : DE} {pos : Pos}
theorem pd_ix (ha : PD X B H0 a da) (hb : PD X B H0 b db) (hs : PlainIx b := by exact fun _ _ => rfl) : PD X B H0 (.Subscript a b pos) (dOp fIx da db) := PEmono (pe_ix ix_seq ha hb hs) fun _ _ _ h => lift2 od_ix h
theorem pd_add (ha : PD X B H0 a da) (hb : PD X B H0 b db) : PD X B H0 (.BinOp a .Add b pos) (dOp fAdd da db) := pd_op op_addA od_add ha hb
theorem pd_sub (ha : PD X B H0 a da) (hb : PD X B H0 b db) : PD X B H0 (.BinOp a .Sub b pos) (dOp fSub da db) := pd_op op_sub od_sub ha hb
theorem pd_mul (ha : PD X B H0 a da) (hb : PD X B H0 b db) : PD X B H0 (.BinOp a .Mult b pos) (dOp fMul da db) := pd_op op_mul od_mul ha hb
theorem pd_fdiv (ha : PD X B H0 a da) (hb : PD X B H0 b db) : PD X B H0 (.BinOp a .FloorDiv b pos) (dOp fFdiv da db) := pd_op op_fdiv od_fdiv ha hb
theorem pd_mod (ha : PD X B H0 a da) (hb : PD X B H0 b db) : PD X B H0 (.BinOp a .Mod b pos) (dOp fMod da db) := pd_op op_mod od_mod ha hb
/-- a written power -/
theorem pd_pow {i j n : Int} {j1 j2} {p1 p2 : Pos} (h : CPow i j := by exact ⟨by decide, by decide, by decide⟩) (e : i ^ j.toNat = n := by decide +kernel) : PD X B H0 (.BinOp (.Constant (.int i) j1 p1) .Pow (.Constant (.int j) j2 p2) pos) (dC (.py (.int n))) :=
  PEmono (pe_op op_pow pe_int pe_int) fun σ H Q ⟨G, S, post, hs, hd, hq⟩ => ⟨i, j, rfl, rfl, h, by show Q (.int (i ^ j.toNat)) H; rw [e]; exact stay hs.wd hq (.int n) hd⟩
/-- a written negative -/
theorem pd_neg {i : Int} {j1} {p1 : Pos} : PD X B H0 (.UnaryOp .USub (.Constant (.int i) j1 p1) pos) (dC (.py (.int (-i)))) :=
  PEmono (pe_un un_neg pe_int) fun σ H Q ⟨G, S, post, hs, hd, hq⟩ => ⟨i, rfl, stay hs.wd hq (.int (-i)) hd⟩

/-! calls of built-ins -/
def cLen : List D → (D → Prop) → Prop := fun xs post => match xs with
  | [.py (.str s)] => s.length ≤ 16000000 ∧ post (.py (.int s.length))
  | [.py (.list ds)] => post (.py (.int ds.length))
  | [.py (.tuple ds)] => post (.py (.int ds.length))
  | [.ol ds] => post (.py (.int ds.length))
  | _ => False
theorem cd_len : CallD K B (fun xs H Q => ∃ x n, xs = [x] ∧ LenV K x H n ∧ Q (.int n) H) cLen := fun G H xs dxs post Q w r hf hq => by
  unfold cLen at hf
  split at hf
  · cases r with
    | cons rx rn => cases rn; cases rx; exact ⟨_, _, rfl, ⟨szM hf.1, rfl⟩, stay w hq (.int _) hf.2⟩
  · cases r with
    | cons rx rn =>
      cases rn
      cases rx with
      | lst h1 h2 => exact ⟨_, _, rfl, .inl ⟨_, SqL.of (w.sub _ _ h1), rfl⟩, by rw [h2.length]; exact stay w hq (.int _) hf⟩
  · cases r with
    | cons rx rn =>
      cases rn
      cases rx with
      | tup h1 h2 => exact ⟨_, _, rfl, .inr ⟨_, SqT.up w.sub h1, rfl⟩, by rw [h2.length]; exact stay w hq (.int _) hf⟩
  · cases r with
    | cons rx rn =>
      cases rn
      obtain ⟨p, vs, rfl, _, h1, h2⟩ := rx
      exact ⟨_, _, rfl, .inl ⟨_, SqL.of h1, rfl⟩, by rw [h2.length]; exact stay w hq (.int _) hf⟩
  · exact hf.elim
def cInt : List D → (D → Prop) → Prop := fun xs post => match xs with
  | [.py (.int i)] => post (.py (.int i))
  | [.py (.bool b)] => post (.py (.int (if b then 1 else 0)))
  | _ => False
theorem cd_int : CallD K B (fun xs H Q => (∃ i, xs = [.int i] ∧ Q (.int i) H) ∨ ∃ k, xs = [.bl k] ∧ Q (.int (if k then 1 else 0)) H) cInt := fun G H xs dxs post Q w r hf hq => by
  unfold cInt at hf
  split at hf
  · cases r with
    | cons rx rn => cases rn; cases rx; exact .inl ⟨_, rfl, stay w hq (.int _) hf⟩
  · cases r with
    | cons rx rn => cases rn; cases rx; exact .inr ⟨_, rfl, stay w hq (.int _) hf⟩
  · exact hf.elim
def cMax2 : List D → (D → Prop) → Prop := fun xs post => match xs with
  | [.py (.int i), .py (.int j)] => post (.py (.int (if j > i then j else i)))
  | _ => False
def cMin2 : List D → (D → Prop) → Prop := fun xs post => match xs with
  | [.py (.int i), .py (.int j)] => post (.py (.int (if j < i then j else i)))
  | _ => False
theorem cd_max2 : CallD K B (fun xs H Q => ∃ i j, xs = [.int i, .int j] ∧ Q (.int (if j > i then j else i)) H) cMax2 := fun G H xs dxs post Q w r hf hq => by
  unfold cMax2 at hf
  split at hf
  · cases r with
    | cons rx rn =>
      cases rn with
      | cons ry rn => cases rn; cases rx; cases ry; exact ⟨_, _, rfl, stay w hq (.int _) hf⟩
  · exact hf.elim
theorem cd_min2 : CallD K B (fun xs H Q => ∃ i j, xs = [.int i, .int j] ∧ Q (.int (if j < i then j else i)) H) cMin2 := fun G H xs dxs post Q w r hf hq => by
  unfold cMin2 at hf
  split at hf
  · cases r with
    | cons rx rn =>
      cases rn with
      | cons ry rn => cases rn; cases rx; cases ry; exact ⟨_, _, rfl, stay w hq (.int _) hf⟩
  · exact hf.elim
/-- a list of ints, read -/
theorem rp_ints {G H : Hp} (w : Wd K B G H) {x : D} {v : V} {ns : List Int} (h : Rp K B G H x v) (e : x.items = some (ns.map PyData.int)) (hl : ∀ ds, x ≠ .py (.tuple ds)) : ∃ p, v = .ref p ∧ SqL K H p (ns.map V.int) := by
  cases x with
  | py q =>
    cases q with
    | list l =>
      cases e
      cases h with
      | lst h1 h2 => refine ⟨_, rfl, SqL.of ?_⟩; rw [← h2.ints]; exact w.sub _ _ h1
    | tuple l => exact absurd rfl (hl l)
    | _ => cases e
  | ol l =>
    cases e
    obtain ⟨p, vs, rfl, _, h1, h2⟩ := h
    refine ⟨_, rfl, SqL.of ?_⟩; rw [← h2.ints]; exact h1
  | _ => cases e
def D.lsti : D → Option (List PyData)
  | .py (.list ds) => some ds
  | .ol ds => some ds
  | _ => none
theorem rp_lst {G H : Hp} (w : Wd K B G H) {x : D} {v : V} {ds : List PyData} (h : Rp K B G H x v) (e : x.lsti = some ds) : ∃ p vs, v = .ref p ∧ H p = some (.lst vs) ∧ DtAll K G vs ds := by
  cases x with
  | py q =>
    cases q with
    | list l =>
      cases e
      cases h with
      | lst h1 h2 => exact ⟨_, _, rfl, w.sub _ _ h1, h2⟩
    | _ => cases e
  | ol l =>
    cases e
    obtain ⟨p, vs, rfl, _, h1, h2⟩ := h
    exact ⟨_, _, rfl, h1, h2⟩
  | _ => cases e
def cSum : List D → (D → Prop) → Prop := fun xs post => match xs with
  | [x] => ∃ ns : List Int, x.lsti = some (ns.map PyData.int) ∧ post (.py (.int ns.sum))
  | _ => False
theorem cd_sum : CallD K B (rSum K) cSum := fun G H xs dxs post Q w r hf hq => by
  unfold cSum at hf
  split at hf
  · cases r with
    | cons rx rn =>
      cases rn
      obtain ⟨ns, e, hf⟩ := hf
      obtain ⟨p, vs, rfl, h1, h2⟩ := rp_lst w rx e
      have := h2.ints; subst this
      exact ⟨p, ns, rfl, SqL.of h1, stay w hq (.int _) hf⟩
  · exact hf.elim
def cMaxL : List D → (D → Prop) → Prop := fun xs post => match xs with
  | [x] => ∃ ns : List Int, x.lsti = some (ns.map PyData.int) ∧ 0 < ns.length ∧ ∀ m, m ∈ ns → (∀ y ∈ ns, y ≤ m) → post (.py (.int m))
  | _ => False
theorem cd_maxL : CallD K B (rMax K) cMaxL := fun G H xs dxs post Q w r hf hq => by
  unfold cMaxL at hf
  split at hf
  · cases r with
    | cons rx rn =>
      cases rn
      obtain ⟨ns, e, hl, hf⟩ := hf
      obtain ⟨p, vs, rfl, h1, h2⟩ := rp_lst w rx e
      have := h2.ints; subst this
      exact ⟨p, ns, rfl, SqL.of h1, hl, fun m k1 k2 => stay w hq (.int _) (hf m k1 k2)⟩
  · exact hf.elim
def cMinL : List D → (D → Prop) → Prop := fun xs post => match xs with
  | [x] => ∃ ns : List Int, x.lsti = some (ns.map PyData.int) ∧ 0 < ns.length ∧ ∀ m, m ∈ ns → (∀ y ∈ ns, m ≤ y) → post (.py (.int m))
  | _ => False
theorem cd_minL : CallD K B (rMin K) cMinL := fun G H xs dxs post Q w r hf hq => by
  unfold cMinL at hf
  split at hf
  · cases r with
    | cons rx rn =>
      cases rn
      obtain ⟨ns, e, hl, hf⟩ := hf
      obtain ⟨p, vs, rfl, h1, h2⟩ := rp_lst w rx e
      have := h2.ints; subst this
      exact ⟨p, ns, rfl, SqL.of h1, hl, fun m k1 k2 => stay w hq (.int _) (hf m k1 k2)⟩
  · exact hf.elim
def cAll : List D → (D → Prop) → Prop := fun xs post => match xs with
  | [x] => ∃ bs : List Bool, x.lsti = some (bs.map PyData.bool) ∧ post (.py (.bool (bs.all id)))
  | _ => False
theorem cd_all : CallD K B (rAll K) cAll := fun G H xs dxs post Q w r hf hq => by
  unfold cAll at hf
  split at hf
  · cases r with
    | cons rx rn =>
      cases rn
      obtain ⟨ns, e, hf⟩ := hf
      obtain ⟨p, vs, rfl, h1, h2⟩ := rp_lst w rx e
      have := h2.bls; subst this
      exact ⟨p, ns, rfl, SqL.of h1, stay w hq (.bl _) hf⟩
  · exact hf.elim
def cAny : List D → (D → Prop) → Prop := fun xs post => match xs with
  | [x] => ∃ bs : List Bool, x.lsti = some (bs.map PyData.bool) ∧ post (.py (.bool (bs.any id)))
  | _ => False
theorem cd_any : CallD K B (rAny K) cAny := fun G H xs dxs post Q w r hf hq => by
  unfold cAny at hf
  split at hf
  · cases r with
    | cons rx rn =>
      cases rn
      obtain ⟨ns, e, hf⟩ := hf
      obtain ⟨p, vs, rfl, h1, h2⟩ := rp_lst w rx e
      have := h2.bls; subst this
      exact ⟨p, ns, rfl, SqL.of h1, stay w hq (.bl _) hf⟩
  · exact hf.elim
def cTuple : List D → (D → Prop) → Prop := fun xs post => match xs with
  | [x] => match x.items with
    | some ds => post (.py (.tuple ds))
    | none => False
  | _ => False
theorem cd_tuple : CallD K B (fun xs H Q => ∃ p ys, xs = [.ref p] ∧ ((SqL K H p ys ∧ ∀ l, H l = none → Q (.ref l) (upd H l (.tup ys))) ∨ (SqT K H p ys ∧ Q (.ref p) H))) cTuple := fun G H xs dxs post Q w r hf hq => by
  unfold cTuple at hf
  split at hf
  · next x =>
    cases r with
    | cons rx rn =>
      cases rn
      split at hf
      · next ds e =>
        cases x with
        | py q =>
          cases q with
          | list l =>
            cases e
            cases rx with
            | lst h1 h2 => exact ⟨_, _, rfl, .inl ⟨SqL.of (w.sub _ _ h1), fun l hl => hq _ _ _ _ (Stp.new w hl _) (Rp.ofDt (Dt.newT (w.sub.free hl) h2)) hf⟩⟩
          | tuple l =>
            cases e
            cases rx with
            | tup h1 h2 => exact ⟨_, _, rfl, .inr ⟨SqT.up w.sub h1, stay w hq (.tup h1 h2) hf⟩⟩
          | _ => cases e
        | ol l =>
          cases e
          obtain ⟨p, vs, rfl, _, h1, h2⟩ := rx
          exact ⟨_, _, rfl, .inl ⟨SqL.of h1, fun l hl => hq _ _ _ _ (Stp.new w hl _) (Rp.ofDt (Dt.newT (w.sub.free hl) h2)) hf⟩⟩
        | _ => cases e
      · exact hf.elim
  · exact hf.elim
def cList : List D → (D → Prop) → Prop := fun xs post => match xs with
  | [x] => match x.items with
    | some ds => post (.py (.list ds))
    | none => False
  | _ => False
theorem cd_list : CallD K B (fun xs H Q => ∃ p ys, xs = [.ref p] ∧ (SqL K H p ys ∨ SqT K H p ys) ∧ ∀ l, H l = none → Q (.ref l) (upd H l (.lst ys))) cList := fun G H xs dxs post Q w r hf hq => by
  unfold cList at hf
  split at hf
  · next x =>
    cases r with
    | cons rx rn =>
      cases rn
      split at hf
      · next ds e =>
        cases x with
        | py q =>
          cases q with
          | list l =>
            cases e
            cases rx with
            | lst h1 h2 => exact ⟨_, _, rfl, .inl (SqL.of (w.sub _ _ h1)), fun l hl => hq _ _ _ _ (Stp.new w hl _) (Rp.ofDt (Dt.newL (w.sub.free hl) h2)) hf⟩
          | tuple l =>
            cases e
            cases rx with
            | tup h1 h2 => exact ⟨_, _, rfl, .inr (SqT.up w.sub h1), fun l hl => hq _ _ _ _ (Stp.new w hl _) (Rp.ofDt (Dt.newL (w.sub.free hl) h2)) hf⟩
          | _ => cases e
        | ol l =>
          cases e
          obtain ⟨p, vs, rfl, _, h1, h2⟩ := rx
          exact ⟨_, _, rfl, .inl (SqL.of h1), fun l hl => hq _ _ _ _ (Stp.new w hl _) (Rp.ofDt (Dt.newL (w.sub.free hl) h2)) hf⟩
        | _ => cases e
      · exact hf.elim
  · exact hf.elim
def cSorted : List D → (D → Prop) → Prop := fun xs post => match xs with
  | [x] => ∃ ns : List Int, x.lsti = some (ns.map PyData.int) ∧ ∀ ns' : List Int, ns'.Perm ns → ns'.Pairwise (· ≤ ·) → post (.py (.list (ns'.map PyData.int)))
  | _ => False
theorem cd_sorted : CallD K B (rSortedI K) cSorted := fun G H xs dxs post Q w r hf hq => by
  unfold cSorted at hf
  split at hf
  · cases r with
    | cons rx rn =>
      cases rn
      obtain ⟨ns, e, hf⟩ := hf
      obtain ⟨p, vs, rfl, h1, h2⟩ := rp_lst w rx e
      have := h2.ints; subst this
      refine ⟨p, ns, rfl, SqL.of h1, fun ns' l hp hs hl => ?_⟩
      exact hq _ _ _ _ (Stp.new w hl _) (Rp.ofDt (Dt.newL (w.sub.free hl) (DtAll.ofInts ns'))) (hf ns' hp hs)
  · exact hf.elim

/-! slices -/
def cutG {α : Type} (xs : List α) (lo hi : Option Int) : List α := (xs.drop (HT.sIx xs.length 0 lo)).take (HT.sIx xs.length xs.length hi - HT.sIx xs.length 0 lo)
theorem cut_all {G : Hp} {vs : List V} {ds : List PyData} {lo hi : Option Int} (h : DtAll K G vs ds) : DtAll K G (cutV vs lo hi) (cutG ds lo hi) := by
  unfold cutV cutG
  rw [h.length]
  exact (h.drop _).take _
abbrev DO := Slots → (Option Int → Prop) → Prop
def lO (K : Kf) (B : List Addr) (H0 : Hp) (d : DO) : TO := fun σ H Q => ∃ (G : Hp) (S : Slots) (post : Option Int → Prop), Sl K B H0 S σ G H ∧ d S post ∧ ∀ o G' H', Stp K B G H G' H' → post o → Q o H'
def dNo : DO := fun _ post => post none
def dPart (e : DE) : DO := fun S post => e S fun x => match x with
  | .py (.int i) => post (some i)
  | _ => False
theorem pdo_none : PO X none (lO X.K B H0 dNo) := ⟨fun pins s σ H Q I ⟨G, S, post, hs, hd, hq⟩ => po_none.run pins s σ H Q I (hq none G H (Stp.refl hs.wd) hd)⟩
theorem pdo_some {e : Expr} {de : DE} (h : PD X B H0 e de) : PO X (some e) (lO X.K B H0 (dPart de)) := ⟨fun pins s σ H Q I ⟨G, S, post, hs, hd, hq⟩ => (po_some h).run pins s σ H Q I ⟨G, S, _, hs, hd, fun v d G' H' s1 r1 p1 => by
  split at p1
  · cases r1; exact ⟨_, rfl, hq _ G' H' s1 p1⟩
  · exact p1.elim⟩⟩
def fSl : D → Option Int → Option Int → (D → Prop) → Prop := fun x lo hi post => match x with
  | .py (.list ds) => post (.py (.list (cutG ds lo hi)))
  | .ol ds => post (.py (.list (cutG ds lo hi)))
  | .py (.tuple ds) => post (.py (.tuple (cutG ds lo hi)))
  | _ => False
def dSl (e : DE) (l u : DO) : DE := fun S post => e S fun x => l S fun lo => u S fun hi => fSl x lo hi post
def rSlB (K : Kf) : V → Option Int → Option Int → Hp → VK → Prop := fun x lo hi H Q => rSlL K x lo hi H Q ∨ rSlA K x lo hi H Q
theorem sl_both : SlR X (rSlB X.K) := sl_list.or sl_tupA
theorem cutG_whole {α : Type} {xs : List α} {lo hi : Option Int} (h : HT.sIx xs.length 0 lo = 0 ∧ HT.sIx xs.length xs.length hi = xs.length) : cutG xs lo hi = xs := by
  unfold cutG
  rw [h.1, h.2, List.drop_zero, Nat.sub_zero, List.take_length]
theorem pd_slice {e : Expr} {de : DE} {lo hi : Option Expr} {dl du : DO} {p2 : Pos} (he : PD X B H0 e de) (hl : PO X lo (lO X.K B H0 dl)) (hu : PO X hi (lO X.K B H0 du)) : PD X B H0 (.Subscript e (.Slice lo hi none p2) pos) (dSl de dl du) :=
  PEmono (pe_slice sl_both he hl hu) fun σ H Q ⟨G, S, post, hs, hd, hq⟩ => by
    refine ⟨G, S, _, hs, hd, fun v d G1 H1 s1 r1 p1 => ⟨G1, S, _, hs.step s1, p1, fun l G2 H2 s2 p2 => ⟨G2, S, _, hs.step (s1.trans s2), p2, fun u G3 H3 s3 p3 => ?_⟩⟩⟩
    have r := Rp.up (s2.trans s3).toOld r1
    have st := s1.trans (s2.trans s3)
    have w := s3.wd
    unfold fSl at p3
    split at p3
    · cases r with
      | lst h1 h2 => exact .inl ⟨_, _, rfl, SqL.of (w.sub _ _ h1), fun p hp => hq _ _ _ _ (st.trans (Stp.new w hp _)) (Rp.ofDt (Dt.newL (w.sub.free hp) (cut_all h2))) p3⟩
    · obtain ⟨q, vs, rfl, _, h1, h2⟩ := r
      exact .inl ⟨_, _, rfl, SqL.of h1, fun p hp => hq _ _ _ _ (st.trans (Stp.new w hp _)) (Rp.ofDt (Dt.newL (w.sub.free hp) (cut_all h2))) p3⟩
    · next ds =>
      cases r with
      | tup h1 h2 =>
        refine .inr ⟨_, _, rfl, SqT.up w.sub h1, fun e => ?_, fun _ p hp => hq _ _ _ _ (st.trans (Stp.new w hp _)) (Rp.ofDt (Dt.newT (w.sub.free hp) (cut_all h2))) p3⟩
        rw [h2.length] at e
        rw [cutG_whole e] at p3
        exact hq _ (.py (.tuple ds)) G3 H3 st (Rp.ofDt (.tup h1 h2)) p3
    · exact p3.elim
end
end DL
/- ==== DLd ==== -/
/-! DLd: statements over data. -/
namespace DL
open PySem PySem.Spec PyProof.Rows L2

abbrev PDS (X : Cx) (B : List Addr) (H0 : Hp) (st : Stmt) (ds : DS) : Prop := PS X st (lS X.K B H0 ds)
abbrev PDSs (X : Cx) (B : List Addr) (H0 : Hp) (st : List Stmt) (ds : DS) : Prop := PSs X st (lS X.K B H0 ds)

def dSeq (a b : DS) : DS := fun E S => a { E with nx := b E } S
def dNext : DS := fun E S => E.nx S
def dBrk : DS := fun E S => E.bk S
def dCont : DS := fun E S => E.ct S
def dNever : DS := fun _ _ => False
def dIfS (c : DT) (a b : DS) : DS := fun E S => c S fun k => if k = true then a E S else b E S
def dRet (e : DE) : DS := fun E S => e S fun d => fre d (E.rt d)
def dRetV (i : Nat) : DS := fun E S => match S[i]? with
  | some (some (.ol ds)) => E.rt (.py (.list ds))
  | some (some (.od kvs)) => E.rt (.dic kvs)
  | some (some d) => E.rt d
  | _ => False
def dSet (i : Nat) (e : DE) : DS := fun E S => e S fun d => fre d (E.nx (S.set i (some d)))
def dSetL (i : Nat) : DS := fun E S => E.nx (S.set i (some (.ol [])))
def dSetD (i : Nat) : DS := fun E S => E.nx (S.set i (some (.od [])))
def dApp (i : Nat) (e : DE) : DS := fun E S => match S[i]? with
  | some (some (.ol ds)) => e S fun d => match d with
    | .py q => ds.length < 16000000 ∧ E.nx (S.set i (some (.ol (ds ++ [q]))))
    | _ => False
  | _ => False
def dDrop (e : DE) : DS := fun E S => e S fun _ => E.nx S
def dPar (i j : Nat) (a b : DE) : DS := fun E S => a S fun x => b S fun y => match x, y with
  | .py x, .py y => E.nx ((S.set i (some (.py x))).set j (some (.py y)))
  | _, _ => False
def dParL (i j : Nat) (a : DE) : DS := fun E S => a S fun x => match x with
  | .py x => E.nx ((S.set i (some (.py x))).set j (some (.ol [])))
  | _ => False
def dWhile (c : DT) (b : DS) : DS := fun E S => ∃ W : Nat → Slots → Prop, (∃ m, W m S) ∧ ∀ m S, W m S → c S fun k => if k = true then b { E with nx := fun S' => ∃ m', m' < m ∧ W m' S', ct := fun S' => ∃ m', m' < m ∧ W m' S', bk := E.nx } S else E.nx S

theorem Old.dom {K : Kf} {B : List Addr} {G0 H0 G H : Hp} (o : Old B G0 H0 G H) (w : Wd K B G H) {p : Addr} (hp : H p = none) : H0 p = none := by
  cases q : H0 p with
  | none => rfl
  | some u =>
    cases g : G0 p with
    | some v => have := w.sub _ _ (o.up _ _ g); rw [hp] at this; cases this
    | none =>
      by_cases hb : p ∈ B
      · obtain ⟨z, hz⟩ := (w.bags p hb).2.some; rw [hp] at hz; cases hz
      · have := (o.keep p u q g hb).1; rw [hp] at this; cases this
/-- an object that is not stable is laid -/
theorem Stp.lay {K : Kf} {B : List Addr} {G H : Hp} (w : Wd K B G H) {p : Addr} (hp : H p = none) (o : HO) : Stp K B G H G (upd H p o) := by
  have hg : G p = none := w.sub.free hp
  refine ⟨⟨fun _ _ h => h, fun a u h h' _ => ⟨by rw [upd_ne (ne_of_none h hp)]; exact h, h'⟩⟩, ⟨fun a u h => by rw [upd_ne (ne_of_none h hg)]; exact w.sub _ _ h, fun b hb => ?_⟩⟩
  obtain ⟨h1, h2⟩ := w.bags b hb
  obtain ⟨u, hu⟩ := h2.some
  exact ⟨h1, h2.up (fun _ _ h => h) (upd_ne (ne_of_none hu hp))⟩
theorem bag_ne {K : Kf} {B : List Addr} {G H : Hp} (w : Wd K B G H) {p : Addr} (hp : H p = none) : p ∉ B := fun hb => by
  obtain ⟨z, hz⟩ := (w.bags p hb).2.some; rw [hp] at hz; cases hz
/-- a new own object in slot i -/
theorem Sl.newOwn {K : Kf} {B : List Addr} {G0 H0 : Hp} {S : Slots} {σ : L2.St} {G H : Hp} (s : Sl K B H0 S σ G H) (o : Old B G0 H0 G H) (i : Nat) {p : Addr} (hp : H p = none) {u : HO} {d : D} (h : Rp K B G (upd H p u) d (.ref p)) :
    Sl K B H0 (S.set i (some d)) (σ.set i (some (.ref p))) G (upd H p u) ∧ Old B G0 H0 G (upd H p u) := by
  have st := Stp.lay s.wd hp u
  refine ⟨(s.step st).setOwn i h (o.dom s.wd hp) fun j dj hj oj ne e => ?_, o.trans st.toOld⟩
  obtain ⟨v, h1, h2, _⟩ := s.slot j dj hj
  rw [e] at h1; cases h1
  cases dj with
  | ol ds => obtain ⟨q, vs, e1, _, h3, _⟩ := h2; cases e1; rw [hp] at h3; cases h3
  | od ds => obtain ⟨q, vs, e1, _, h3, _⟩ := h2; cases e1; rw [hp] at h3; cases h3
  | _ => exact oj.elim
/-- an own object is given up: it stands still from now on -/
theorem release {K : Kf} {B : List Addr} {G0 H0 G H : Hp} (w : Wd K B G H) (o : Old B G0 H0 G H) {p : Addr} {u : HO} (hg : G p = none) (hb : p ∉ B) (hp : H p = some u) (h0 : H0 p = none) : Wd K B (upd G p u) H ∧ Old B G0 H0 (upd G p u) H := by
  refine ⟨⟨fun a z h => ?_, fun b hbb => ?_⟩, ⟨fun a z h => ?_, fun a z h h' hbb => ?_⟩⟩
  · by_cases e : a = p
    · subst e; rw [upd_same] at h; cases h; exact hp
    · rw [upd_ne e] at h; exact w.sub _ _ h
  · have ne : b ≠ p := fun e => hb (e ▸ hbb)
    obtain ⟨h1, h2⟩ := w.bags b hbb
    exact ⟨by rw [upd_ne ne]; exact h1, h2.up (Same.updN hg) rfl⟩
  · have := o.up _ _ h
    rw [upd_ne (ne_of_none this hg)]; exact this
  · have ne : a ≠ p := fun e => by subst e; rw [h0] at h; cases h
    rw [upd_ne ne]; exact o.keep a z h h' hbb
/-- an own object is changed -/
theorem Sl.write {K : Kf} {B : List Addr} {G0 H0 : Hp} {S : Slots} {σ : L2.St} {G H : Hp} (s : Sl K B H0 S σ G H) (o : Old B G0 H0 G H) (i : Nat) {p : Addr} {u : HO} {d d' : D} (hi : S[i]? = some (some d)) (hd : d.own) (hσ : σ[i]? = some (some (.ref p)))
    (hg : G p = none) (hb : p ∉ B) (h0 : H0 p = none) (h : Rp K B G (upd H p u) d' (.ref p)) (hd' : d'.own) : Sl K B H0 (S.set i (some d')) σ G (upd H p u) ∧ Old B G0 H0 G (upd H p u) := by
  refine ⟨⟨⟨fun a z h => by rw [upd_ne (ne_of_none h hg)]; exact s.wd.sub _ _ h, fun b hbb => ?_⟩, by rw [List.length_set]; exact s.len, fun j e hj => ?_, fun j k dj dk q hjk h1 h2 o1 o2 q1 q2 => ?_⟩, ⟨o.up, fun a z hz h' hbb => ?_⟩⟩
  · have ne : b ≠ p := fun e => hb (e ▸ hbb)
    obtain ⟨h1, h2⟩ := s.wd.bags b hbb
    exact ⟨h1, h2.up (fun _ _ h => h) (upd_ne ne)⟩
  · rcases set_get hj with ⟨rfl, e1, hl⟩ | ⟨ne, h2⟩
    · cases e1
      exact ⟨_, hσ, h, fun _ q e => by cases e; exact h0⟩
    · obtain ⟨v, k1, k2, k3⟩ := s.slot j e h2
      refine ⟨v, k1, ?_, k3⟩
      cases e with
      | py q => exact k2
      | raw q => exact k2
      | dic q => exact k2
      | ins p C q => exact k2
      | fn L => exact k2
      | lk L => exact k2
      | ex a dd fs => exact k2
      | ol ds =>
        obtain ⟨q, vs, rfl, w1, w2, w3⟩ := k2
        have nq : q ≠ p := fun z => by subst z; exact s.sep j i _ _ q (Ne.symm ne) h2 hi trivial hd k1 hσ
        exact ⟨q, vs, rfl, w1, by rw [upd_ne nq]; exact w2, w3⟩
      | od ds =>
        obtain ⟨q, vs, rfl, w1, w2, w3⟩ := k2
        have nq : q ≠ p := fun z => by subst z; exact s.sep j i _ _ q (Ne.symm ne) h2 hi trivial hd k1 hσ
        exact ⟨q, vs, rfl, w1, by rw [upd_ne nq]; exact w2, w3⟩
  · rcases set_get h1 with ⟨rfl, e1, hl⟩ | ⟨ne1, h1⟩
    · rcases set_get h2 with ⟨rfl, e2, hl⟩ | ⟨ne2, h2⟩
      · exact hjk rfl
      · exact s.sep _ k d dk q hjk hi h2 hd o2 q1 q2
    · rcases set_get h2 with ⟨rfl, e2, hl⟩ | ⟨ne2, h2⟩
      · exact s.sep j _ dj d q hjk h1 hi o1 hd q1 q2
      · exact s.sep j k dj dk q hjk h1 h2 o1 o2 q1 q2
  · have ne : a ≠ p := fun e => by subst e; rw [h0] at hz; cases hz
    rw [upd_ne ne]; exact o.keep a z hz h' hbb

section
variable {X : Cx} {B : List Addr} {H0 : Hp} {st : Stmt} {rest : List Stmt} {a b : DS} {da db de : DE} {ta : DT} {pos pos' : Pos} {e : Expr}
theorem psd_cons (h1 : PDS X B H0 st a) (h2 : PDSs X B H0 rest b) : PDSs X B H0 (st :: rest) (dSeq a b) := PSsmono (pss_cons h1 h2) fun D σ H ⟨G0, E, hn, q1, q2, q3, q4⟩ =>
  ⟨G0, { E with nx := b E }, hn, fun σ' H' z => ⟨G0, E, z, q1, q2, q3, q4⟩, q2, q3, q4⟩
theorem psd_one (h1 : PDS X B H0 st a) : PDSs X B H0 [st] a := pss_one h1
theorem psd_nil : PDSs X B H0 [] dNext := PSsmono pss_nil fun D σ H ⟨G0, E, hn, q1, q2, q3, q4⟩ => q1 σ H hn
theorem psd_brk : PDS X B H0 (.Break pos) dBrk := PSmono ps_break fun D σ H ⟨G0, E, hn, q1, q2, q3, q4⟩ => q3 σ H hn
theorem psd_cont : PDS X B H0 (.Continue pos) dCont := PSmono ps_continue fun D σ H ⟨G0, E, hn, q1, q2, q3, q4⟩ => q4 σ H hn
theorem psd_pass : PDS X B H0 (.Pass pos) dNext := PSmono ps_pass fun D σ H ⟨G0, E, hn, q1, q2, q3, q4⟩ => q1 σ H hn
theorem psd_never : PDS X B H0 st dNever := PSmono ps_never fun D σ H ⟨G0, E, ⟨_, _, _, _, z⟩, _⟩ => z
theorem psd_if {c : Expr} {s1 s2 : List Stmt} (hc : PDT X B H0 c ta) (h1 : PDSs X B H0 s1 a) (h2 : PDSs X B H0 s2 b) : PDS X B H0 (.If c s1 s2 pos) (dIfS ta a b) := PSmono (ps_if hc h1 h2) fun D σ H ⟨G0, E, ⟨G, S, hs, ho, hd⟩, q1, q2, q3, q4⟩ => by
  refine ⟨G, S, _, hs, hd, fun k G' H' s p => ?_⟩
  cases k with
  | true =>
    rw [if_pos rfl] at p ⊢
    exact ⟨G0, E, ⟨G', S, hs.step s, ho.trans s.toOld, p⟩, q1, q2, q3, q4⟩
  | false =>
    rw [if_neg Bool.false_ne_true] at p ⊢
    exact ⟨G0, E, ⟨G', S, hs.step s, ho.trans s.toOld, p⟩, q1, q2, q3, q4⟩
theorem psd_ret (h : PD X B H0 e de) : PDS X B H0 (.Return (some e) pos) (dRet de) := PSmono (ps_ret h) fun D σ H ⟨G0, E, ⟨G, S, hs, ho, hd⟩, q1, q2, q3, q4⟩ => by
  refine ⟨G, S, _, hs, hd, fun v d G' H' s r p => q2 v H' ⟨G', d, s.wd, ho.trans s.toOld, r, ?_⟩⟩
  cases d <;> first | exact p.elim | exact ⟨fun z => z.elim, p⟩
theorem psd_retN : PDS X B H0 (.Return none pos) (fun E S => E.rt (.py .none)) := PSmono ps_retN fun D σ H ⟨G0, E, ⟨G, S, hs, ho, hd⟩, q1, q2, q3, q4⟩ => q2 _ _ ⟨G, _, hs.wd, ho, Rp.non, fun z => z.elim, hd⟩
theorem psd_retV (i : Nat) {x : Str} {p : Pos} (hN : X.N[i]? = some x := by rfl) (hv : Vis X.env.scope x := by first | exact Or.inl rfl | exact Or.inr (Or.inl rfl) | exact Or.inr (Or.inr rfl)) (hd : (x == ("__debug__" : Str)) = false := by decide)
    (hcd : (x == ("__classdict__" : Str)) = false := by decide) : PDS X B H0 (.Return (some (.Name x p)) pos) (dRetV i) := PSmono (ps_ret (pe_var hN hv hd hcd)) fun D σ H ⟨G0, E, ⟨G, S, hs, ho, hd⟩, q1, q2, q3, q4⟩ => by
  unfold dRetV at hd
  split at hd
  · next ds e =>
    obtain ⟨v, h1, ⟨p, vs, rfl, w1, w2, w3⟩, h3⟩ := hs.slot i _ e
    obtain ⟨r1, r2⟩ := release hs.wd ho w1.1 w1.2 w2 (h3 trivial p rfl)
    exact ⟨_, h1, q2 _ _ ⟨_, _, r1, r2, Rp.ofDt (.lst upd_same (DtAll.up (Same.updN w1.1) w3)), fun z => z.elim, hd⟩⟩
  · next ds e =>
    obtain ⟨v, h1, ⟨p, vs, rfl, w1, w2, w3⟩, h3⟩ := hs.slot i _ e
    obtain ⟨r1, r2⟩ := release hs.wd ho w1.1 w1.2 w2 (h3 trivial p rfl)
    exact ⟨_, h1, q2 _ _ ⟨_, _, r1, r2, (show Rp X.K B (upd G p (.dK vs)) H (.dic ds) (.ref p) from ⟨p, vs, rfl, upd_same, KvR.up (Same.updN w1.1) w3⟩), fun z => z.elim, hd⟩⟩
  · next d _ _ e =>
    obtain ⟨v, h1, h2, h3⟩ := hs.slot i _ e
    exact ⟨v, h1, q2 _ _ ⟨G, _, hs.wd, ho, h2, h3, hd⟩⟩
  · exact hd.elim
theorem psd_drop (h : PD X B H0 e de) (hs : swapsWith e none pos.line X.env = pure false := by rfl) : PDS X B H0 (.Expr e pos) (dDrop de) := PSmono (ps_expr h hs) fun D σ H ⟨G0, E, ⟨G, S, hs, ho, hd⟩, q1, q2, q3, q4⟩ =>
  ⟨G, S, _, hs, hd, fun v d G' H' s r p => q1 _ _ ⟨G', S, hs.step s, ho.trans s.toOld, p⟩⟩
variable {x : Str}
theorem nset {K : Kf} {B : List Addr} {G0 H0 : Hp} {S : Slots} {σ : L2.St} {G H : Hp} (s : Sl K B H0 S σ G H) (o : Old B G0 H0 G H) (i : Nat) {d : D} {v : V} (r : Rp K B G H d v) {P : Slots → Prop} (p : fre d (P (S.set i (some d)))) :
    nxOf K B G0 H0 P (σ.set i (some v)) H := by
  cases d with
  | ol _ => exact p.elim
  | od _ => exact p.elim
  | py q => exact ⟨G, _, s.set i r (fun z => z), o, p⟩
  | raw q => exact ⟨G, _, s.set i r (fun z => z), o, p⟩
  | dic q => exact ⟨G, _, s.set i r (fun z => z), o, p⟩
  | ins p C q => exact ⟨G, _, s.set i r (fun z => z), o, p⟩
  | fn L => exact ⟨G, _, s.set i r (fun z => z), o, p⟩
  | lk L => exact ⟨G, _, s.set i r (fun z => z), o, p⟩
  | ex a dd fs => exact ⟨G, _, s.set i r (fun z => z), o, p⟩
theorem psd_set {i : Nat} (hN : X.N.Nodup) (hi : X.N[i]? = some x) (hx : Loc X.env.scope x) (he : PD X B H0 e de) (hs : swapsWith e (some (.Name x pos')) pos.line X.env = pure false := by rfl) (hf : X.fn x = true ∨ X.env.scope.names.lookup x = some .local := by first | exact .inl rfl | exact .inr rfl | assumption) :
    PDS X B H0 (.Assign [.Name x pos'] e pos) (dSet i de) := PSmono (ps_set hN hi hx he hs hf) fun D σ H ⟨G0, E, ⟨G, S, hs, ho, hd⟩, q1, q2, q3, q4⟩ =>
  ⟨G, S, _, hs, hd, fun v d G' H' s r p => q1 _ _ (nset (hs.step s) (ho.trans s.toOld) i r p)⟩
/-- a statement that stores an expression's value by a rule of its own -/
theorem psd_asg {te : TE} {i : Nat} {st : Stmt} (h : PS X st (tAsg te (gName i))) (hl : ∀ σ H Q, lE X.K B H0 de σ H Q → te σ H Q) : PDS X B H0 st (dSet i de) := PSmono h fun D σ H ⟨G0, E, ⟨G, S, hs, ho, hd⟩, q1, q2, q3, q4⟩ =>
  hl _ _ _ ⟨G, S, _, hs, hd, fun v d G' H' s r p => q1 _ _ (nset (hs.step s) (ho.trans s.toOld) i r p)⟩
theorem psd_setL {i : Nat} {p2 : Pos} (hN : X.N.Nodup) (hi : X.N[i]? = some x) (hx : Loc X.env.scope x) (hs : swapsWith (.List [] p2) (some (.Name x pos')) pos.line X.env = pure false := by rfl) (hf : X.fn x = true ∨ X.env.scope.names.lookup x = some .local := by first | exact .inl rfl | exact .inr rfl | assumption) :
    PDS X B H0 (.Assign [.Name x pos'] (.List [] p2) pos) (dSetL i) := PSmono (ps_set hN hi hx (pe_lst pa_nil) hs hf) fun D σ H ⟨G0, E, ⟨G, S, hs, ho, hd⟩, q1, q2, q3, q4⟩ =>
  ⟨sz1000 (Nat.zero_le _), fun p hp => by
    obtain ⟨h1, h2⟩ := hs.newOwn ho i hp (u := .lst []) (d := .ol []) ⟨p, [], rfl, ⟨hs.wd.sub.free hp, bag_ne hs.wd hp⟩, upd_same, .nil⟩
    exact q1 _ _ ⟨G, _, h1, h2, hd⟩⟩
theorem psd_setD {i : Nat} {p2 : Pos} (hN : X.N.Nodup) (hi : X.N[i]? = some x) (hx : Loc X.env.scope x) (hs : swapsWith (.Dict [] [] p2) (some (.Name x pos')) pos.line X.env = pure false := by rfl) (hf : X.fn x = true ∨ X.env.scope.names.lookup x = some .local := by first | exact .inl rfl | exact .inr rfl | assumption) :
    PDS X B H0 (.Assign [.Name x pos'] (.Dict [] [] p2) pos) (dSetD i) := PSmono (ps_set hN hi hx pe_dnewK hs hf) fun D σ H ⟨G0, E, ⟨G, S, hs, ho, hd⟩, q1, q2, q3, q4⟩ =>
  fun p hp => by
    obtain ⟨h1, h2⟩ := hs.newOwn ho i hp (u := .dK []) (d := .od []) ⟨p, [], rfl, ⟨hs.wd.sub.free hp, bag_ne hs.wd hp⟩, upd_same, .nil⟩
    exact q1 _ _ ⟨G, _, h1, h2, hd⟩
/-- xs.append(e), xs this frame's own -/
theorem psd_app {i : Nat} {p1 : Pos} {apos cpos : Pos} (hN : X.N[i]? = some x) (hv : Vis X.env.scope x) (hd : (x == ("__debug__" : Str)) = false) (hcd : (x == ("__classdict__" : Str)) = false) (he : PD X B H0 e de)
    (hp : ∀ {to : TE} {t : TA}, PE X (.Name x p1) to → PA X [e] t → PE X (.Call (.Attribute (.Name x p1) "append" apos) [e] [] cpos) (tBM X.K "list" rAppend to t)) (hs : swapsWith (.Call (.Attribute (.Name x p1) "append" apos) [e] [] cpos) none pos.line X.env = pure false)
    (hst : starEach [e] X.env = (false, eval e X.env) :: starEach [] X.env) : PDS X B H0 (.Expr (.Call (.Attribute (.Name x p1) "append" apos) [e] [] cpos) pos) (dApp i de) := PSmono (ps_expr (hp (pe_var hN hv hd hcd) (pa_cons he pa_nil hst)) hs) fun D σ H ⟨G0, E, ⟨G, S, hs, ho, hd⟩, q1, q2, q3, q4⟩ => by
  unfold dApp at hd
  split at hd
  · next ds e =>
    obtain ⟨v, h1, ⟨p, vs, rfl, w1, w2, w3⟩, h3⟩ := hs.slot i _ e
    refine ⟨_, h1, Or.inl ⟨rfl, _, SqL.of w2⟩, G, S, _, hs, hd, fun v d G' H' s r q => ?_⟩
    split at q
    · next q' =>
      have k := s.keep p _ w2 w1.1 w1.2
      refine ⟨p, vs, v, rfl, rfl, k.1, szL (by rw [w3.length]; exact q.1), ?_⟩
      obtain ⟨y1, y2⟩ := (hs.step s).write (ho.trans s.toOld) i e trivial h1 k.2 w1.2 (h3 trivial p rfl) (u := .lst (vs ++ [v])) (d' := .ol (ds ++ [q'])) ⟨p, _, rfl, ⟨k.2, w1.2⟩, upd_same, (DtAll.up s.up w3).append (.one r)⟩ trivial
      exact q1 _ _ ⟨G', _, y1, y2, q.2⟩
    · exact q.elim
  · exact hd.elim
/-- a, b = e1, e2: two local names -/
theorem psd_par {i j : Nat} {x y : Str} {a b : Expr} {px py pt : Pos} {kt k2 pt2} (hc : X.calm = true) (hN : X.N.Nodup) (hi : X.N[i]? = some x) (hj : X.N[j]? = some y) (hij : i ≠ j)
    (hx : X.env.scope.names.lookup x = some .local) (hy : X.env.scope.names.lookup y = some .local) (ha : PD X B H0 a da) (hb : PD X B H0 b db)
    (hw : swappedStores [.Tuple [.Name x px, .Name y py] kt pt] (.Tuple [a, b] k2 pt2) X.env = pure (some [x, y])) (s1 : starEach [a, b] X.env = (false, eval a X.env) :: starEach [b] X.env := by rfl) (s2 : starEach [b] X.env = (false, eval b X.env) :: starEach [] X.env := by rfl)
    (hs : swapsWithSole [.Tuple [.Name x px, .Name y py] kt pt] (.Tuple [a, b] k2 pt2) pos.line X.env = pure false := by rfl) :
    PDS X B H0 (.Assign [.Tuple [.Name x px, .Name y py] kt pt] (.Tuple [a, b] k2 pt2) pos) (dPar i j da db) := PSmono (ps_par hc hN hi hj hij hx hy (pa_cons ha (pa_cons hb pa_nil s2) s1) hw hs) fun D σ H ⟨G0, E, ⟨G, S, hs, ho, hd⟩, q1, q2, q3, q4⟩ =>
  ⟨G, S, _, hs, hd, fun v d G1 H1 s r p => ⟨G1, S, _, hs.step s, p, fun v2 d2 G2 H2 s2 r2 p2 => by
    refine ⟨v, v2, rfl, q1 _ _ ?_⟩
    split at p2
    · exact ⟨G2, _, ((hs.step (s.trans s2)).set i (Rp.up s2.toOld r) (fun z => z)).set j r2 (fun z => z), ho.trans (s.trans s2).toOld, p2⟩
    · exact p2.elim⟩⟩
theorem psd_parL {i j : Nat} {x y : Str} {a : Expr} {px py pt p2 : Pos} {kt k2 pt2} (hc : X.calm = true) (hN : X.N.Nodup) (hi : X.N[i]? = some x) (hj : X.N[j]? = some y) (hij : i ≠ j)
    (hx : X.env.scope.names.lookup x = some .local) (hy : X.env.scope.names.lookup y = some .local) (ha : PD X B H0 a da)
    (hw : swappedStores [.Tuple [.Name x px, .Name y py] kt pt] (.Tuple [a, .List [] p2] k2 pt2) X.env = pure (some [x, y])) (s1 : starEach [a, .List [] p2] X.env = (false, eval a X.env) :: starEach [.List [] p2] X.env := by rfl) (s2 : starEach [.List [] p2] X.env = (false, eval (.List [] p2) X.env) :: starEach [] X.env := by rfl)
    (hs : swapsWithSole [.Tuple [.Name x px, .Name y py] kt pt] (.Tuple [a, .List [] p2] k2 pt2) pos.line X.env = pure false := by rfl) :
    PDS X B H0 (.Assign [.Tuple [.Name x px, .Name y py] kt pt] (.Tuple [a, .List [] p2] k2 pt2) pos) (dParL i j da) := PSmono (ps_par hc hN hi hj hij hx hy (pa_cons ha (pa_cons (pe_lst pa_nil) pa_nil s2) s1) hw hs) fun D σ H ⟨G0, E, ⟨G, S, hs, ho, hd⟩, q1, q2, q3, q4⟩ =>
  ⟨G, S, _, hs, hd, fun v d G1 H1 s r p => ⟨sz1000 (Nat.zero_le _), fun q hq => by
    refine ⟨v, _, rfl, q1 _ _ ?_⟩
    split at p
    · have h1 := (hs.step s).set i r (fun z => z)
      obtain ⟨k1, k2⟩ := h1.newOwn (ho.trans s.toOld) j hq (u := .lst []) (d := .ol []) ⟨q, [], rfl, ⟨s.wd.sub.free hq, bag_ne s.wd hq⟩, upd_same, .nil⟩
      exact ⟨G1, _, k1, k2, p⟩
    · exact p.elim⟩⟩
theorem psd_while {c : Expr} {body : List Stmt} (hp : PassesOwn (model X.prog X.w) X.A X.env X.xe) (hc : PDT X B H0 c ta) (hb : PDSs X B H0 body b) : PDS X B H0 (.While c body [] pos) (dWhile ta b) := PSmono (ps_while hp hc hb) fun D σ H ⟨G0, E, ⟨G, S, hs, ho, W, ⟨m0, w0⟩, turn⟩, q1, q2, q3, q4⟩ => by
  refine ⟨fun m σ H => nxOf X.K B G0 H0 (W m) σ H, ⟨m0, G, S, hs, ho, w0⟩, fun m σ H ⟨G, S, hs, ho, hw⟩ => ?_⟩
  refine ⟨G, S, _, hs, turn m S hw, fun k G' H' s p => ?_⟩
  cases k with
  | true =>
    rw [if_pos rfl] at p ⊢
    refine ⟨fun σ' H' => nxOf X.K B G0 H0 (fun S' => ∃ m', m' < m ∧ W m' S') σ' H', fun σ' H' ⟨G, S, h1, h2, m', h3, h4⟩ => ⟨m', h3, G, S, h1, h2, h4⟩, ?_⟩
    exact ⟨G0, _, ⟨G', S, hs.step s, ho.trans s.toOld, p⟩, fun _ _ z => z, q2, q1, fun _ _ z => z⟩
  | false =>
    rw [if_neg Bool.false_ne_true] at p ⊢
    exact q1 _ _ ⟨G', S, hs.step s, ho.trans s.toOld, p⟩

/-! ### targets -/
abbrev DG := PyData → Slots → (Slots → Prop) → Prop
abbrev DGs := List PyData → Slots → (Slots → Prop) → Prop
def dgName (i : Nat) : DG := fun d S post => post (S.set i (some (.py d)))
def dgNil : DGs := fun ds S post => match ds with
  | [] => post S
  | _ => False
def dgCons (g : DG) (r : DGs) : DGs := fun ds S post => match ds with
  | d :: ds => g d S fun S' => r ds S' post
  | [] => False
def dgTup (r : DGs) : DG := fun d S post => match d with
  | .tuple ds => r ds S post
  | _ => False
/-- is: the slots that may change -/
def lG (K : Kf) (B : List Addr) (H0 : Hp) (is : List Nat) (dg : DG) : TG := fun v σ H Q => ∃ (G : Hp) (S : Slots) (d : PyData) (post : Slots → Prop), Sl K B H0 S σ G H ∧ Dt K G v d ∧ dg d S post ∧
  ∀ S' σ', Sl K B H0 S' σ' G H → σ'.length = σ.length → (∀ j, j ∉ is → σ'[j]? = σ[j]?) → post S' → Q σ' H
def lGs (K : Kf) (B : List Addr) (H0 : Hp) (is : List Nat) (dg : DGs) : TGs := fun vs σ H Q => ∃ (G : Hp) (S : Slots) (ds : List PyData) (post : Slots → Prop), Sl K B H0 S σ G H ∧ DtAll K G vs ds ∧ dg ds S post ∧
  ∀ S' σ', Sl K B H0 S' σ' G H → σ'.length = σ.length → (∀ j, j ∉ is → σ'[j]? = σ[j]?) → post S' → Q σ' H
abbrev PDG (X : Cx) (B : List Addr) (H0 : Hp) (is : List Nat) (tg : Expr) (g : DG) : Prop := PG X tg (lG X.K B H0 is g)
abbrev PDGs (X : Cx) (B : List Addr) (H0 : Hp) (is : List Nat) (tg : List Expr) (g : DGs) : Prop := PGs X tg (lGs X.K B H0 is g)
theorem PGmono {X : Cx} {e : Expr} {t t' : TG} (h : PG X e t) (m : ∀ v σ H Q, t' v σ H Q → t v σ H Q) : PG X e t' := ⟨fun pins s σ H x v Q I r q => h.run pins s σ H x v Q I r (m x σ H Q q)⟩
theorem PGsmono {X : Cx} {e : List Expr} {t t' : TGs} (h : PGs X e t) (m : ∀ v σ H Q, t' v σ H Q → t v σ H Q) : PGs X e t' := ⟨fun pins s σ H x v Q I r q => h.run pins s σ H x v Q I r (m x σ H Q q)⟩
theorem pdg_name {i : Nat} {pos : Pos} (hN : X.N.Nodup) (hi : X.N[i]? = some x) (hx : Loc X.env.scope x) (hf : X.fn x = true ∨ X.env.scope.names.lookup x = some .local := by first | exact .inl rfl | exact .inr rfl | assumption) : PDG X B H0 [i] (.Name x pos) (dgName i) :=
  PGmono (pg_name hN hi hx hf) fun v σ H Q ⟨G, S, d, post, hs, hd, hg, hq⟩ => hq _ _ (hs.set i (Rp.ofDt hd) (fun z => z)) (by rw [List.length_set]) (fun j hj => by rw [List.getElem?_set_ne]; intro e; exact hj (by rw [e]; exact List.mem_singleton.mpr rfl)) hg
theorem pdgs_nil : PDGs X B H0 [] [] dgNil := PGsmono pgs_nil fun v σ H Q ⟨G, S, ds, post, hs, hd, hg, hq⟩ => by
  unfold dgNil at hg
  split at hg
  · cases hd
    exact ⟨rfl, hq S σ hs rfl (fun _ _ => rfl) hg⟩
  · exact hg.elim
theorem pdgs_cons {e : Expr} {es : List Expr} {g : DG} {r : DGs} {is js : List Nat} (h1 : PDG X B H0 is e g) (h2 : PDGs X B H0 js es r) (hu : (assignEach (e :: es) X.env).map (·.2) = assign e X.env :: (assignEach es X.env).map (·.2) := by rfl) :
    PDGs X B H0 (is ++ js) (e :: es) (dgCons g r) := PGsmono (pgs_cons h1 h2 hu) fun v σ H Q ⟨G, S, ds, post, hs, hd, hg, hq⟩ => by
  unfold dgCons at hg
  split at hg
  · cases hd with
    | cons hd1 hd2 =>
      refine ⟨_, _, rfl, G, S, _, _, hs, hd1, hg, fun S' σ' hs' hl hj p => ⟨G, S', _, post, hs', hd2, p, fun S2 σ2 hs2 hl2 hj2 p2 => hq S2 σ2 hs2 (hl2.trans hl) (fun j hn => ?_) p2⟩⟩
      rw [hj2 j (fun z => hn (List.mem_append_right _ z)), hj j (fun z => hn (List.mem_append_left _ z))]
  · exact hg.elim
theorem pdg_tup {es : List Expr} {k : Nat} {r : DGs} {n : Nat} {is : List Nat} (hc : X.calm = true) (h : PDGs X B H0 is es r) (hn : ∀ {ds S post}, r ds S post → ds.length = n)
    (ha : (assignEach es X.env).length = n := by rfl) (hst : (assignEach es X.env).findIdx? (·.1) = none := by rfl) : PDG X B H0 is (.Tuple es k pos) (dgTup r) := PGmono (pg_tup hc h ha hst) fun v σ H Q ⟨G, S, d, post, hs, hd, hg, hq⟩ => by
  unfold dgTup at hg
  split at hg
  · cases hd with
    | tup t1 t2 => exact ⟨_, _, rfl, SqT.up hs.wd.sub t1, by rw [t2.length]; exact hn hg, G, S, _, post, hs, t2, hg, hq⟩
  · exact hg.elim
end
end DL
/- ==== DLe ==== -/
/-! DLe: loops, comprehensions, dicts, defs over data. -/
namespace DL
open PySem PySem.Spec PyProof.Rows L2 RZ

/-! ### what is walked -/
abbrev DI := Slots → (List PyData → Prop) → Prop
/-- an iterator that gives these, from G1 on -/
def ItD (K : Kf) (B : List Addr) (J : It) (ds : List PyData) (G1 : Hp) : Prop := ∀ (G H : Hp), Wd K B G H → Same G1 G → ∀ i : Nat, (ds[i]? = none → J.stop i H) ∧ ∀ d, ds[i]? = some d → J.go i H ∧ ∀ x H', J.yld i H x H' → ∃ G', Stp K B G H G' H' ∧ Dt K G' x d
def lI (K : Kf) (B : List Addr) (H0 : Hp) (di : DI) : TI := fun σ H R => ∃ (G : Hp) (S : Slots) (post : List PyData → Prop), Sl K B H0 S σ G H ∧ di S post ∧ ∀ J ds G' H', Stp K B G H G' H' → ItD K B J ds G' → post ds → R J H'
abbrev PDI (X : Cx) (B : List Addr) (H0 : Hp) (tg iter : Expr) (di : DI) : Prop := PI X tg iter (lI X.K B H0 di)
def diL (e : DE) : DI := fun S post => e S fun x => match x with
  | .py (.list ds) => post ds
  | _ => False
def diT (e : DE) : DI := fun S post => e S fun x => match x with
  | .py (.tuple ds) => post ds
  | _ => False
def diR1 (e : DE) : DI := fun S post => e S fun x => match x with
  | .py (.int n) => n < 2 ^ 61 ∧ -(2 ^ 61) < n ∧ post ((List.range n.toNat).map fun (i : Nat) => PyData.int (i : Int))
  | _ => False
def diR2 (a b : DE) : DI := fun S post => a S fun x => b S fun y => match x, y with
  | .py (.int lo), .py (.int hi) => (lo < 2 ^ 61 ∧ -(2 ^ 61) < lo ∧ hi < 2 ^ 61 ∧ -(2 ^ 61) < hi) ∧ post ((List.range (hi - lo).toNat).map fun (i : Nat) => PyData.int (lo + (i : Int)))
  | _, _ => False
def diS (e : DE) : DI := fun S post => e S fun x => match x with
  | .py (.str z) => post (z.cps.toList.map fun c => PyData.str ⟨#[c]⟩)
  | _ => False
/-- zip of two of one kind: pairs -/
def zipP (xs ys : List PyData) : List PyData := List.zipWith (fun x y => PyData.tuple [x, y]) xs ys
def diZ (a b : DE) : DI := fun S post => a S fun x => b S fun y => match x, y with
  | .py (.list xs), .py (.list ys) => post (zipP xs ys)
  | .py (.tuple xs), .py (.tuple ys) => post (zipP xs ys)
  | _, _ => False

theorem zipP_get (xs ys : List PyData) (i : Nat) : (zipP xs ys)[i]? = match xs[i]?, ys[i]? with
  | some x, some y => some (PyData.tuple [x, y])
  | _, _ => none := by
  unfold zipP
  rw [List.getElem?_zipWith]
  cases xs[i]? <;> cases ys[i]? <;> rfl
theorem none_len {G : Hp} {K : Kf} {vs : List V} {ds : List PyData} {i : Nat} (h : DtAll K G vs ds) (e : ds[i]? = none) : vs.length ≤ i := by
  rw [h.length]; exact List.getElem?_eq_none_iff.mp e
theorem itd_list {K : Kf} {B : List Addr} {a : Addr} {xs : List V} {ds : List PyData} {G1 : Hp} (h : G1 a = some (.lst xs)) (hd : DtAll K G1 xs ds) : ItD K B (Itl K a) ds G1 := fun G H w e i =>
  have q : SqL K H a xs := SqL.of (w.sub _ _ (e _ _ h))
  ⟨fun hn => ⟨xs, q, none_len hd hn⟩, fun d hi => by
    obtain ⟨v, hv, hdv⟩ := hd.getD hi
    refine ⟨⟨xs, v, q, hv⟩, fun x H' ⟨e1, e2⟩ => ?_⟩
    subst e1
    have := e2 xs q
    rw [hv] at this; cases this
    exact ⟨G, Stp.refl w, Dt.up e hdv⟩⟩
theorem itd_tup {K : Kf} {B : List Addr} {a : Addr} {xs : List V} {ds : List PyData} {G1 : Hp} (h : SqT K G1 a xs) (hd : DtAll K G1 xs ds) : ItD K B (Itt K a) ds G1 := fun G H w e i =>
  have q : SqT K H a xs := SqT.up w.sub (SqT.up e h)
  ⟨fun hn => ⟨xs, q, none_len hd hn⟩, fun d hi => by
    obtain ⟨v, hv, hdv⟩ := hd.getD hi
    refine ⟨⟨xs, v, q, hv⟩, fun x H' ⟨e1, e2⟩ => ?_⟩
    subst e1
    have := e2 xs q
    rw [hv] at this; cases this
    exact ⟨G, Stp.refl w, Dt.up e hdv⟩⟩
theorem itd_range {K : Kf} {B : List Addr} {lo : Int} {n : Nat} {G1 : Hp} : ItD K B (Itr lo n) ((List.range n).map fun (i : Nat) => PyData.int (lo + (i : Int))) G1 := fun G H w e i => by
  refine ⟨fun hn => ?_, fun d hi => ?_⟩
  · have := List.getElem?_eq_none_iff.mp hn
    rw [List.length_map, List.length_range] at this
    exact this
  · obtain ⟨hl, he⟩ := List.getElem?_eq_some_iff.mp hi
    rw [List.length_map, List.length_range] at hl
    rw [List.getElem_map, List.getElem_range] at he
    refine ⟨hl, fun x H' ⟨e1, e2⟩ => ?_⟩
    subst e1 e2 he
    exact ⟨G, Stp.refl w, .int _⟩
theorem itd_str {K : Kf} {B : List Addr} {z : Str} {G1 : Hp} : ItD K B (Its z) (z.cps.toList.map fun c => PyData.str ⟨#[c]⟩) G1 := fun G H w e i => by
  refine ⟨fun hn => ?_, fun d hi => ?_⟩
  · have := List.getElem?_eq_none_iff.mp hn
    rw [List.length_map, Array.length_toList] at this
    exact this
  · obtain ⟨hl, he⟩ := List.getElem?_eq_some_iff.mp hi
    rw [List.length_map, Array.length_toList] at hl
    rw [List.getElem_map, Array.getElem_toList] at he
    refine ⟨hl, fun x H' ⟨e1, c, e2, e3⟩ => ?_⟩
    subst e1 e3 he
    rw [Array.getElem?_eq_getElem hl] at e2
    cases e2
    exact ⟨G, Stp.refl w, .str _⟩
section
variable {X : Cx} {B : List Addr} {H0 : Hp} {tg e e2 iter : Expr} {de db : DE}
theorem pdi_list (h : PD X B H0 e de) : PDI X B H0 tg e (diL de) := PImono (pi_list h) fun σ H R ⟨G, S, post, hs, hd, hq⟩ => ⟨G, S, _, hs, hd, fun v d G' H' s r p => by
  split at p
  · cases r with
    | lst h1 h2 => exact ⟨_, rfl, ⟨_, SqL.of (s.wd.sub _ _ h1)⟩, hq _ _ G' H' s (itd_list h1 h2) p⟩
  · exact p.elim⟩
theorem pdi_tup (h : PD X B H0 e de) : PDI X B H0 tg e (diT de) := PImono (pi_tup h) fun σ H R ⟨G, S, post, hs, hd, hq⟩ => ⟨G, S, _, hs, hd, fun v d G' H' s r p => by
  split at p
  · cases r with
    | tup h1 h2 => exact ⟨_, rfl, ⟨_, SqT.up s.wd.sub h1⟩, hq _ _ G' H' s (itd_tup h1 h2) p⟩
  · exact p.elim⟩
theorem pdi_str (h : PD X B H0 e de) : PDI X B H0 tg e (diS de) := PImono (pi_str h) fun σ H R ⟨G, S, post, hs, hd, hq⟩ => ⟨G, S, _, hs, hd, fun v d G' H' s r p => by
  split at p
  · cases r; exact ⟨_, rfl, hq _ _ G' H' s itd_str p⟩
  · exact p.elim⟩
theorem pdi_range1 {p pos : Pos} (hg : Gl X "range") (hm : X.mg "range" = none) (ha : PD X B H0 e de) (hs : starEach [e] X.env = [(false, eval e X.env)] := by rfl) (hs' : starEach [e] X.env = (false, eval e X.env) :: starEach [] X.env := by rfl) : PDI X B H0 tg (.Call (.Name "range" p) [e] [] pos) (diR1 de) :=
  PImono (pi_range1 hg hm (pa_cons ha pa_nil hs') hs) fun σ H R ⟨G, S, post, hs, hd, hq⟩ => ⟨G, S, _, hs, hd, fun v d G' H' s r p => by
    split at p
    · next n =>
      cases r
      refine ⟨n, rfl, by have := p.2.1; omega, by have := p.1; omega, hq _ _ G' H' s ?_ p.2.2⟩
      have := itd_range (K := X.K) (B := B) (lo := 0) (n := n.toNat) (G1 := G')
      simp only [Int.zero_add] at this
      exact this
    · exact p.elim⟩
theorem pdi_range2 {p pos : Pos} (hg : Gl X "range") (hm : X.mg "range" = none) (ha : PD X B H0 e de) (hb : PD X B H0 e2 db) (hs : starEach [e, e2] X.env = [(false, eval e X.env), (false, eval e2 X.env)] := by rfl) (hs2 : starEach [e2] X.env = [(false, eval e2 X.env)] := by rfl)
    (k1 : starEach [e, e2] X.env = (false, eval e X.env) :: starEach [e2] X.env := by rfl) (k2 : starEach [e2] X.env = (false, eval e2 X.env) :: starEach [] X.env := by rfl) : PDI X B H0 tg (.Call (.Name "range" p) [e, e2] [] pos) (diR2 de db) :=
  PImono (pi_range2 hg hm (pa_cons ha (pa_cons hb pa_nil k2) k1) hs hs2) fun σ H R ⟨G, S, post, hs, hd, hq⟩ => ⟨G, S, _, hs, hd, fun v d G1 H1 s1 r1 p1 => ⟨G1, S, _, hs.step s1, p1, fun v2 d2 G' H' s r p => by
    split at p
    · next lo hi =>
      cases r1
      cases r
      refine ⟨lo, hi, rfl, ⟨by have := p.1.2.1; omega, by have := p.1.1; omega, by have := p.1.2.2.2; omega, by have := p.1.2.2.1; omega⟩, hq _ _ G' H' (s1.trans s) itd_range p.2⟩
    · exact p.elim⟩⟩
theorem zip_none {xs ys : List PyData} {i : Nat} (h : (zipP xs ys)[i]? = none) : xs[i]? = none ∨ ys[i]? = none := by
  rw [zipP_get] at h
  cases q : xs[i]? with
  | none => exact .inl rfl
  | some x =>
    cases q2 : ys[i]? with
    | none => exact .inr rfl
    | some y => rw [q, q2] at h; cases h
theorem zip_some {xs ys : List PyData} {i : Nat} {d : PyData} (h : (zipP xs ys)[i]? = some d) : ∃ x y, xs[i]? = some x ∧ ys[i]? = some y ∧ d = .tuple [x, y] := by
  rw [zipP_get] at h
  cases q : xs[i]? with
  | none => rw [q] at h; cases h
  | some x =>
    cases q2 : ys[i]? with
    | none => rw [q, q2] at h; cases h
    | some y => rw [q, q2] at h; cases h; exact ⟨x, y, rfl, rfl, rfl⟩
theorem itd_zipL {K : Kf} {a b : Addr} {xs ys : List V} {ds es : List PyData} {G1 : Hp} (h : G1 a = some (.lst xs)) (hd : DtAll K G1 xs ds) (h' : G1 b = some (.lst ys)) (hd' : DtAll K G1 ys es) : ItD K B (Itz K a b) (zipP ds es) G1 := fun G H w e i => by
  have q : SqL K H a xs := SqL.of (w.sub _ _ (e _ _ h))
  have q' : SqL K H b ys := SqL.of (w.sub _ _ (e _ _ h'))
  refine ⟨fun hn => ⟨xs, ys, q, q', ?_⟩, fun d hi => ?_⟩
  · rcases zip_none hn with z | z
    · exact .inl (none_len hd z)
    · exact .inr (none_len hd' z)
  · obtain ⟨x, y, hx, hy, rfl⟩ := zip_some hi
    obtain ⟨v, hv, dv⟩ := hd.getD hx
    obtain ⟨u, hu, du⟩ := hd'.getD hy
    refine ⟨⟨xs, ys, v, u, q, q', hv, hu⟩, fun x H' ⟨T, x', y', e1, hT, e2, f1, f2⟩ => ?_⟩
    subst e1 e2
    have k1 := f1 xs q; rw [hv] at k1; cases k1
    have k2 := f2 ys q'; rw [hu] at k2; cases k2
    exact ⟨_, Stp.new w hT _, Dt.newT (w.sub.free hT) (.cons (Dt.up e dv) (.cons (Dt.up e du) .nil))⟩
theorem itd_zipT {K : Kf} {a b : Addr} {xs ys : List V} {ds es : List PyData} {G1 : Hp} (h : SqT K G1 a xs) (hd : DtAll K G1 xs ds) (h' : SqT K G1 b ys) (hd' : DtAll K G1 ys es) : ItD K B (ItzT K a b) (zipP ds es) G1 := fun G H w e i => by
  have q : SqT K H a xs := SqT.up w.sub (SqT.up e h)
  have q' : SqT K H b ys := SqT.up w.sub (SqT.up e h')
  refine ⟨fun hn => ⟨xs, ys, q, q', ?_⟩, fun d hi => ?_⟩
  · rcases zip_none hn with z | z
    · exact .inl (none_len hd z)
    · exact .inr (none_len hd' z)
  · obtain ⟨x, y, hx, hy, rfl⟩ := zip_some hi
    obtain ⟨v, hv, dv⟩ := hd.getD hx
    obtain ⟨u, hu, du⟩ := hd'.getD hy
    refine ⟨⟨xs, ys, v, u, q, q', hv, hu⟩, fun x H' ⟨T, x', y', e1, hT, e2, f1, f2⟩ => ?_⟩
    subst e1 e2
    have k1 := f1 xs q; rw [hv] at k1; cases k1
    have k2 := f2 ys q'; rw [hu] at k2; cases k2
    exact ⟨_, Stp.new w hT _, Dt.newT (w.sub.free hT) (.cons (Dt.up e dv) (.cons (Dt.up e du) .nil))⟩
theorem pdi_zip {p pos tpos : Pos} {elts : List Expr} {kk : Nat} (hg : Gl X "zip") (hm : X.mg "zip" = none) (ha : PD X B H0 e de) (hb : PD X B H0 e2 db)
    (k1 : starEach [e, e2] X.env = (false, eval e X.env) :: starEach [e2] X.env := by rfl) (k2 : starEach [e2] X.env = (false, eval e2 X.env) :: starEach [] X.env := by rfl) (hpl : (backTo pos (starEach [e2] X.env)).any (·.1) = false := by rfl) :
    PDI X B H0 (.Tuple elts kk tpos) (.Call (.Name "zip" p) [e, e2] [] pos) (diZ de db) :=
  PImono (pi_zipA hg hm (pa_cons ha (pa_cons hb pa_nil k2) k1) k1 hpl) fun σ H R ⟨G, S, post, hs, hd, hq⟩ => ⟨G, S, _, hs, hd, fun v d G1 H1 s1 r1 p1 => ⟨G1, S, _, hs.step s1, p1, fun v2 d2 G' H' s r p => by
    have r1 := Rp.up s.toOld r1
    split at p
    · cases r1 with
      | lst h1 h2 =>
        cases r with
        | lst h3 h4 => exact ⟨_, _, _, _, rfl, .inl ⟨SqL.of (s.wd.sub _ _ h1), SqL.of (s.wd.sub _ _ h3), hq _ _ G' H' (s1.trans s) (itd_zipL h1 h2 h3 h4) p⟩⟩
    · cases r1 with
      | tup h1 h2 =>
        cases r with
        | tup h3 h4 => exact ⟨_, _, _, _, rfl, .inr ⟨SqT.up s.wd.sub h1, SqT.up s.wd.sub h3, hq _ _ G' H' (s1.trans s) (itd_zipT h1 h2 h3 h4) p⟩⟩
    · exact p.elim⟩⟩

/-! ### for -/
def dFor (di : DI) (g : DG) (b : DS) : DS := fun E S => di S fun ds => ∃ Iv : Nat → Slots → Prop, Iv 0 S ∧
  (∀ (i : Nat) (d : PyData) (S' : Slots), ds[i]? = some d → Iv i S' → g d S' fun S2 => b { E with nx := Iv (i + 1), ct := Iv (i + 1), bk := E.nx } S2) ∧ ∀ S', Iv ds.length S' → E.nx S'
theorem psd_for {body : List Stmt} {di : DI} {g : DG} {b : DS} {is : List Nat} {pos : Pos} (hp : PassesOwn (model X.prog X.w) X.A X.env X.xe) (hc : X.calm = true) (hi : PDI X B H0 tg iter di) (hg : PDG X B H0 is tg g) (hb : PDSs X B H0 body b)
    (hs : ∀ x, foldedSetIterable iter X.env x = pure x := by intro _; rfl) : PDS X B H0 (.For tg iter body [] pos) (dFor di g b) := PSmono (ps_for hp hc hi hg hb hs) fun D σ H ⟨G0, E, ⟨G, S, hs, ho, hd⟩, q1, q2, q3, q4⟩ => by
  refine ⟨G, S, _, hs, hd, fun J ds G1 H1 s1 it ⟨Iv, i0, turn, fin⟩ => ?_⟩
  refine ⟨fun i m σ H => m = ds.length - i ∧ i ≤ ds.length ∧ ∃ G S, Sl X.K B H0 S σ G H ∧ Old B G0 H0 G H ∧ Same G1 G ∧ Iv i S, ⟨ds.length, rfl, Nat.zero_le _, G1, S, hs.step s1, ho.trans s1.toOld, fun _ _ h => h, i0⟩, ?_⟩
  rintro i m σ H ⟨rfl, hi, G, S, hs, ho, hsame, hinv⟩
  obtain ⟨t1, t2⟩ := it G H hs.wd hsame i
  cases e : ds[i]? with
  | none =>
    have := List.getElem?_eq_none_iff.mp e
    have : i = ds.length := by omega
    subst this
    exact .inl ⟨t1 e, q1 _ _ ⟨G, S, hs, ho, fin S hinv⟩⟩
  | some d =>
    have hlt := (List.getElem?_eq_some_iff.mp e).1
    obtain ⟨g1, g2⟩ := t2 d e
    refine .inr ⟨g1, fun σ' H' => ∃ G S, Sl X.K B H0 S σ' G H' ∧ Old B G0 H0 G H' ∧ Same G1 G ∧ Iv (i + 1) S, fun σ' H' z => ⟨ds.length - (i + 1), by omega, rfl, hlt, z⟩, fun x H' y => ?_⟩
    obtain ⟨G2, s2, dx⟩ := g2 x H' y
    refine ⟨G2, S, d, _, hs.step s2, dx, turn i d S e hinv, fun S' σ' hs' _ _ p => ?_⟩
    refine ⟨G2, _, ⟨G2, S', hs', ?_, p⟩, fun σ3 H3 ⟨G3, S3, k1, k2, k3⟩ => ⟨G3, S3, k1, ?_, (hsame.trans s2.up).trans k2.up, k3⟩, fun v H3 ⟨G3, d3, k1, k2, k3, k4⟩ => q2 v H3 ⟨G3, d3, k1, ?_, k3, k4⟩, fun σ3 H3 ⟨G3, S3, k1, k2, k3⟩ => q1 σ3 H3 ⟨G3, S3, k1, ?_, k3⟩, fun σ3 H3 ⟨G3, S3, k1, k2, k3⟩ => ⟨G3, S3, k1, ?_, (hsame.trans s2.up).trans k2.up, k3⟩⟩
    · exact (ho.trans s2.toOld).self
    all_goals exact (ho.trans s2.toOld).andThen k2
end
end DL
/- ==== DLf ==== -/
/-! DLf: comprehensions, dicts, defs over data. -/
namespace DL
open PySem PySem.Spec PyProof.Rows L2 RZ

/-! ### comprehensions -/
def wipeS (S : Slots) : List Nat → Slots
  | [] => S
  | v :: vs => (wipeS S vs).set v none
def dLc (di : DI) (g : DG) (t : DT) (e : DE) (own : List Nat) : DE := fun S post => di S fun ds => ∃ Iv : Nat → List PyData → Prop, Iv 0 [] ∧
  (∀ (i : Nat) (d : PyData) (acc : List PyData), ds[i]? = some d → Iv i acc → g d (wipeS S own) fun S2 => t S2 fun b => if b = true then e S2 fun y => match y with
    | .py q => acc.length < 16000000 ∧ Iv (i + 1) (acc ++ [q])
    | _ => False
  else Iv (i + 1) acc) ∧ ∀ acc, Iv ds.length acc → post (.py (.list acc))
def dYes : DT := fun _ post => post true
theorem Sl.wipe {K : Kf} {B : List Addr} {H0 : Hp} {S : Slots} {σ : L2.St} {G H : Hp} (s : Sl K B H0 S σ G H) : ∀ vs : List Nat, Sl K B H0 (wipeS S vs) (L2.wipe σ vs) G H
  | [] => s
  | v :: vs => (s.wipe vs).clear v none
theorem wipe_eq {σ σ' : L2.St} {is : List Nat} (hl : σ'.length = σ.length) (h : ∀ j, j ∉ is → σ'[j]? = σ[j]?) : ∀ vs : List Nat, (∀ j, j ∈ is → j ∈ vs) → L2.wipe σ' vs = L2.wipe σ vs := fun vs hs => by
  have key : ∀ (vs : List Nat) (τ : L2.St) (j : Nat), (L2.wipe τ vs)[j]? = if j ∈ vs then (if j < τ.length then some none else none) else τ[j]? := by
    intro vs
    induction vs with
    | nil => intro τ j; simp [L2.wipe]
    | cons v vs ih =>
      intro τ j
      unfold L2.wipe
      by_cases e : v = j
      · subst e
        rw [if_pos List.mem_cons_self]
        by_cases hv : v < τ.length
        · rw [List.getElem?_set_self (by rw [L2.wipe_length]; exact hv), if_pos hv]
        · rw [List.getElem?_eq_none (by rw [List.length_set, L2.wipe_length]; omega), if_neg hv]
      · rw [List.getElem?_set_ne e, ih]
        by_cases m : j ∈ vs
        · rw [if_pos m, if_pos (List.mem_cons_of_mem _ m)]
        · rw [if_neg m, if_neg (fun z => (List.mem_cons.mp z).elim (fun q => e q.symm) m)]
  refine List.ext_getElem? fun j => ?_
  rw [key, key]
  by_cases m : j ∈ vs
  · rw [if_pos m, if_pos m, hl]
  · rw [if_neg m, if_neg m]
    exact h j fun z => m (hs j z)
section
variable {X : Cx} {B : List Addr} {H0 : Hp}
theorem lc_lift {di : DI} {g : DG} {t : DT} {e : DE} {own is : List Nat} (hio : ∀ j, j ∈ is → j ∈ own) {σ : L2.St} {H : Hp} {Q : VK} (h : lE X.K B H0 (dLc di g t e own) σ H Q) : tLc (lI X.K B H0 di) (lG X.K B H0 is g) (lT X.K B H0 t) (lE X.K B H0 e) own σ H Q := by
  obtain ⟨G, S, post, hs, hd, hq⟩ := h
  refine ⟨G, S, _, hs, hd, fun J ds G1 H1 s1 it ⟨Iv, i0, turn, fin⟩ D hD => ?_⟩
  have hDB := bag_ne s1.wd hD
  refine ⟨fun i m H2 => m = ds.length - i ∧ i ≤ ds.length ∧ ∃ G2 acc vs, Stp X.K B G1 H1 G2 H2 ∧ G2 D = none ∧ H2 D = some (.lst vs) ∧ DtAll X.K G2 vs acc ∧ Iv i acc, ⟨ds.length, rfl, Nat.zero_le _, G1, [], [], Stp.lay s1.wd hD _, s1.wd.sub.free hD, upd_same, .nil, i0⟩, ?_⟩
  rintro i m H2 ⟨rfl, hi, G2, acc, vs, s2, gD, hD2, da, hiv⟩
  obtain ⟨t1, t2⟩ := it G2 H2 s2.wd s2.up i
  cases eq : ds[i]? with
  | none =>
    have := List.getElem?_eq_none_iff.mp eq
    have : i = ds.length := by omega
    subst this
    refine .inl ⟨t1 eq, ?_⟩
    -- the list stands still from now on
    have hnew : Stp X.K B G1 H1 (upd G2 D (.lst vs)) H2 := by
      refine ⟨⟨fun a u h => ?_, fun a u h h' hb => ?_⟩, ⟨fun a u h => ?_, fun b hb => ?_⟩⟩
      · have := s2.up _ _ h
        rw [upd_ne (ne_of_none this gD)]; exact this
      · have ne : a ≠ D := ne_of_none h hD
        rw [upd_ne ne]; exact s2.keep a u h h' hb
      · by_cases z : a = D
        · subst z; rw [upd_same] at h; cases h; exact hD2
        · rw [upd_ne z] at h; exact s2.wd.sub _ _ h
      · have ne : b ≠ D := fun z => hDB (z ▸ hb)
        obtain ⟨k1, k2⟩ := s2.wd.bags b hb
        exact ⟨by rw [upd_ne ne]; exact k1, k2.up (Same.updN gD) rfl⟩
    exact hq _ _ _ _ (s1.trans hnew) (Rp.ofDt (.lst upd_same (DtAll.up (Same.updN gD) da))) (fin acc hiv)
  | some d =>
    have hlt := (List.getElem?_eq_some_iff.mp eq).1
    obtain ⟨g1, g2⟩ := t2 d eq
    refine .inr ⟨g1, fun H' => ∃ G2 acc vs, Stp X.K B G1 H1 G2 H' ∧ G2 D = none ∧ H' D = some (.lst vs) ∧ DtAll X.K G2 vs acc ∧ Iv (i + 1) acc, fun H' z => ⟨ds.length - (i + 1), by omega, rfl, hlt, z⟩, fun x H3 y => ?_⟩
    obtain ⟨G3, s3, dx⟩ := g2 x H3 y
    have st : Stp X.K B G1 H1 G3 H3 := s2.trans s3
    have k3 := s3.keep D _ hD2 gD hDB
    refine ⟨G3, wipeS S own, d, _, (hs.step (s1.trans st)).wipe own, dx, turn i d acc eq hiv, fun S' σ' hs' hl hj p => ⟨?_, G3, S', _, hs', p, fun b G4 H4 s4 p4 => ?_⟩⟩
    · have hw := wipe_eq hl hj own hio
      have : ∀ (vs : List Nat) (τ : L2.St), L2.wipe (L2.wipe τ vs) vs = L2.wipe τ vs := fun vs τ => by
        refine wipe_eq (is := vs) (L2.wipe_length τ vs) (fun j hn => ?_) vs fun _ z => z
        exact L2.wipe_out hn
      rw [hw, this]
    · have k4 := s4.keep D _ k3.1 k3.2 hDB
      cases b with
      | true =>
        rw [if_pos rfl] at p4
        refine iteT ?_
        refine ⟨G4, S', _, hs'.step s4, p4, fun v q G5 H5 s5 r5 p5 => ?_⟩
        have k5 := s5.keep D _ k4.1 k4.2 hDB
        split at p5
        · next q' =>
          refine ⟨vs, k5.1, szL (by rw [da.length]; exact p5.1), G5, acc ++ [q'], vs ++ [v], ?_, k5.2, upd_same, (DtAll.up (s3.trans (s4.trans s5)).up da).append (.one r5), p5.2⟩
          have s6 := st.trans (s4.trans s5)
          refine ⟨⟨s6.up, fun a u h h' hb => ?_⟩, ⟨fun a u h => ?_, fun b hb => ?_⟩⟩
          · have ne : a ≠ D := ne_of_none h hD
            rw [upd_ne ne]; exact s6.keep a u h h' hb
          · rw [upd_ne (ne_of_none h k5.2)]; exact s6.wd.sub _ _ h
          · have ne : b ≠ D := fun z => hDB (z ▸ hb)
            obtain ⟨y1, y2⟩ := s6.wd.bags b hb
            exact ⟨y1, y2.up (fun _ _ h => h) (upd_ne ne)⟩
        · exact p5.elim
      | false =>
        rw [if_neg Bool.false_ne_true] at p4
        refine iteF ?_
        exact ⟨G4, acc, vs, st.trans s4, k4.2, k4.1, DtAll.up (s3.trans s4).up da, p4⟩
theorem pd_lc {elt tg iter : Expr} {ifs : List Expr} {scope : Scope} {own : List (Str × Nat)} {is : List Nat} {pos : Pos} {di : DI} {g : DG} {t : DT} {e : DE} (hc : X.calm = true) (hN : X.N.Nodup) (hi : PDI X B H0 tg iter di) (ok : BlkOk X.N X.env.scope scope own)
    (hg : ∀ (s : Shared) (H : Hp) (C : Addr) (cl : List (Str × Addr)) (fp : List Addr), PDG (X.blk s H scope (compEnvC scope cl C X.env) fp) B H0 is tg g) (ht : ∀ (s : Shared) (H : Hp) (C : Addr) (cl : List (Str × Addr)) (fp : List Addr), PTs (X.blk s H scope (compEnvC scope cl C X.env) fp) ifs (lT X.K B H0 t))
    (he : ∀ (s : Shared) (H : Hp) (C : Addr) (cl : List (Str × Addr)) (fp : List Addr), PD (X.blk s H scope (compEnvC scope cl C X.env) fp) B H0 elt e) (hio : ∀ j, j ∈ is → j ∈ own.map (·.2) := by decide) (hs : ∀ x, foldedSetIterable iter X.env x = pure x := by intro _; rfl) :
    PD X B H0 (.ListComp elt [⟨tg, iter, ifs, 0⟩] scope pos) (dLc di g t e (own.map (·.2))) := PEmono (pe_lc hc hN hi ok hg ht he hs) fun _ _ _ h => lc_lift hio h
theorem psd_setLc {i : Nat} {y : Str} {py : Pos} {elt tg iter : Expr} {ifs : List Expr} {scope : Scope} {own : List (Str × Nat)} {is : List Nat} {pos spos : Pos} {di : DI} {g : DG} {t : DT} {e : DE} (hc : X.calm = true) (hN : X.N.Nodup) (hy : X.N[i]? = some y) (hyl : X.env.scope.names.lookup y = some .local)
    (hsw : swapsWith (.ListComp elt [⟨tg, iter, ifs, 0⟩] scope pos) (some (.Name y py)) spos.line X.env = pure true) (hi : PDI X B H0 tg iter di) (ok : BlkOk X.N X.env.scope scope own)
    (hg : ∀ (s : Shared) (H : Hp) (C : Addr) (cl : List (Str × Addr)) (fp : List Addr), PDG (X.blk s H scope (compEnvC scope cl C X.env) fp) B H0 is tg g) (ht : ∀ (s : Shared) (H : Hp) (C : Addr) (cl : List (Str × Addr)) (fp : List Addr), PTs (X.blk s H scope (compEnvC scope cl C X.env) fp) ifs (lT X.K B H0 t))
    (he : ∀ (s : Shared) (H : Hp) (C : Addr) (cl : List (Str × Addr)) (fp : List Addr), PD (X.blk s H scope (compEnvC scope cl C X.env) fp) B H0 elt e) (hio : ∀ j, j ∈ is → j ∈ own.map (·.2) := by decide) (hs : ∀ x, foldedSetIterable iter X.env x = pure x := by intro _; rfl) :
    PDS X B H0 (.Assign [.Name y py] (.ListComp elt [⟨tg, iter, ifs, 0⟩] scope pos) spos) (dSet i (dLc di g t e (own.map (·.2)))) :=
  psd_asg (ps_setLc hc hN hy hyl hsw hi ok hg ht he hs) fun _ _ _ h => lc_lift hio h
theorem ptd_nil : PTs X [] (lT X.K B H0 dYes) := ⟨fun pins s σ H Q I ⟨G, S, post, hs, hd, hq⟩ => wpAny_tests_nil ⟨H, I, hq true G H (Stp.refl hs.wd) hd⟩⟩
theorem ptd_one {c : Expr} {t : DT} (h : PDT X B H0 c t) : PTs X [c] (lT X.K B H0 t) := pts_one h

/-! ### dicts -/
section
variable {κ : Type} [DecidableEq κ]
def valD (kvs : List (κ × PyData)) (k : κ) : Option PyData := (kvs.find? fun p => decide (p.1 = k)).map (·.2)
def putD (kvs : List (κ × PyData)) (k : κ) (v : PyData) : List (κ × PyData) :=
  if (kvs.any fun kv => decide (kv.1 = k)) = true then kvs.map (fun kv => if kv.1 = k then (kv.1, v) else kv) else kvs ++ [(k, v)]
theorem kv_val {K : Kf} {G : Hp} {k : κ} : ∀ {vs : List (κ × V)} {kvs : List (κ × PyData)}, KvR K G vs kvs → (valV vs k = none ∧ valD kvs k = none) ∨ ∃ v d, valV vs k = some v ∧ valD kvs k = some d ∧ Dt K G v d
  | _, _, .nil => .inl ⟨rfl, rfl⟩
  | p :: ps, q :: qs, .cons r t => by
    have ih := kv_val (k := k) t
    by_cases e : q.1 = k
    · have e' : p.1 = k := r.1.trans e
      exact .inr ⟨p.2, q.2, by simp [valV, List.find?_cons, e'], by simp [valD, List.find?_cons, e], r.2⟩
    · have e' : ¬ p.1 = k := fun z => e (r.1.symm.trans z)
      have h1 : valV (p :: ps) k = valV ps k := valV_neg e'
      have h2 : ∀ l, valD (q :: l) k = valD l k := fun l => by simp [valD, List.find?_cons, e]
      rw [h1, h2]; exact ih
theorem kv_any {K : Kf} {G : Hp} {k : κ} : ∀ {vs : List (κ × V)} {kvs : List (κ × PyData)}, KvR K G vs kvs → (vs.any fun kv => decide (kv.1 = k)) = kvs.any fun kv => decide (kv.1 = k)
  | _, _, .nil => rfl
  | p :: _, q :: _, .cons r t => by rw [List.any_cons, List.any_cons, kv_any t, r.1]
theorem kv_map {K : Kf} {G : Hp} {k : κ} {v : V} {d : PyData} (h : Dt K G v d) : ∀ {vs : List (κ × V)} {kvs : List (κ × PyData)}, KvR K G vs kvs → KvR K G (vs.map fun kv => if kv.1 = k then (kv.1, v) else kv) (kvs.map fun kv => if kv.1 = k then (kv.1, d) else kv)
  | _, _, .nil => .nil
  | p :: _, q :: _, .cons r t => by
    refine .cons ?_ (kv_map h t)
    by_cases e : q.1 = k
    · have e' : p.1 = k := r.1.trans e
      dsimp only
      rw [if_pos e, if_pos e']; exact ⟨r.1, h⟩
    · have e' : ¬ p.1 = k := fun z => e (r.1.symm.trans z)
      dsimp only
      rw [if_neg e, if_neg e']; exact r
theorem kv_app {K : Kf} {G : Hp} {p : κ × V} {q : κ × PyData} (h : p.1 = q.1 ∧ Dt K G p.2 q.2) : ∀ {vs : List (κ × V)} {kvs : List (κ × PyData)}, KvR K G vs kvs → KvR K G (vs ++ [p]) (kvs ++ [q])
  | _, _, .nil => .cons h .nil
  | _ :: _, _ :: _, .cons r t => .cons r (kv_app h t)
theorem kv_put {K : Kf} {G : Hp} {k : κ} {v : V} {d : PyData} (h : Dt K G v d) {vs : List (κ × V)} {kvs : List (κ × PyData)} (r : KvR K G vs kvs) : KvR K G (putK vs k v) (putD kvs k d) := by
  unfold putK putD
  rw [kv_any r]
  by_cases e : (kvs.any fun kv => decide (kv.1 = k)) = true
  · rw [if_pos e, if_pos e]; exact kv_map h r
  · rw [if_neg e, if_neg e]; exact kv_app ⟨rfl, h⟩ r
theorem kv_len {K : Kf} {G : Hp} {vs : List (κ × V)} {kvs : List (κ × PyData)} (r : KvR K G vs kvs) : vs.length = kvs.length := Paired.length r
end
def keyD : D → Option Key
  | .py (.int n) => some (.inl n)
  | .py (.str z) => some (.inr z)
  | _ => none
def D.kvs : D → Option (List (Key × PyData))
  | .od k => some k
  | .dic k => some k
  | .lk k => some k
  | _ => none
theorem rp_key {K : Kf} {B : List Addr} {G H : Hp} {d : D} {v : V} {k : Key} (h : Rp K B G H d v) (e : keyD d = some k) : v = kV k := by
  cases d with
  | py q => cases q with
    | int n => cases e; cases h; rfl
    | str n => cases e; cases h; rfl
    | _ => cases e
  | _ => cases e
theorem rp_kvs {K : Kf} {B : List Addr} {G H : Hp} (w : Wd K B G H) {d : D} {v : V} {kvs : List (Key × PyData)} (h : Rp K B G H d v) (e : d.kvs = some kvs) : ∃ p vs, v = .ref p ∧ Rd H p (.dK vs) ∧ KvR K G vs kvs := by
  cases d with
  | od k => cases e; obtain ⟨p, vs, rfl, _, h1, h2⟩ := h; exact ⟨p, vs, rfl, .inl h1, h2⟩
  | dic k => cases e; obtain ⟨p, vs, rfl, h1, h2⟩ := h; exact ⟨p, vs, rfl, .inl (w.sub _ _ h1), h2⟩
  | lk k => cases e; obtain ⟨p, od, vs, rfl, h1, h2⟩ := h; exact ⟨p, vs, rfl, .inr ⟨od, w.sub _ _ h1⟩, h2⟩
  | _ => cases e
theorem dget_rd {H : Hp} {a : Addr} {kvs : List (Key × V)} {k : Key} (e : Rd H a (.dK kvs)) : DGet H a (kV k) (valV kvs k) := .inl ⟨kvs, k, e, rfl, rfl⟩
/-- d[k], it is there -/
def fDix : D → D → (D → Prop) → Prop := fun x y post => match x.kvs, keyD y with
  | some kvs, some k => match valD kvs k with
    | some q => post (.py q)
    | none => False
  | _, _ => False
def dDix (a b : DE) : DE := fun S post => a S fun x => b S fun y => fDix x y post
/-- d.get(k, z) -/
def dDget (a b c : DE) : DE := fun S post => a S fun x => match x.kvs with
  | some kvs => b S fun y => c S fun z => match keyD y with
    | some k => match valD kvs k with
      | some q => post (.py q)
      | none => post z
    | none => False
  | none => False
/-- k in d -/
def dDin (b a : DE) : DE := fun S post => b S fun y => a S fun x => match x.kvs, keyD y with
  | some kvs, some k => post (.py (.bool (valD kvs k).isSome))
  | _, _ => False
def dPut (i : Nat) (k v : DE) : DS := fun E S => match S[i]? with
  | some (some (.od kvs)) => v S fun dv => k S fun dk => match dv, keyD dk with
    | .py q, some key => kvs.length < 16000000 ∧ E.nx (S.set i (some (.od (putD kvs key q))))
    | _, _ => False
  | _ => False
variable {o i e f : Expr} {da db dc : DE} {pos apos cpos pos' : Pos}
theorem pd_dix (hu : X.A.units + 1 < cLine) (ho : PD X B H0 o da) (hi : PD X B H0 i db) (hs : NoSl i := by exact fun _ _ => rfl) : PD X B H0 (.Subscript o i pos) (dDix da db) := PEmono (pe_dget hu ho hi hs) fun σ H Q ⟨G, S, post, hs, hd, hq⟩ => by
  refine ⟨G, S, _, hs, hd, fun v d G1 H1 s1 r1 p1 => ⟨G1, S, _, hs.step s1, p1, fun v2 d2 G2 H2 s2 r2 p2 => ?_⟩⟩
  have r1 := Rp.up s2.toOld r1
  unfold fDix at p2
  split at p2
  · next kvs k e1 e2 =>
    obtain ⟨p, vs, rfl, h1, h2⟩ := rp_kvs s2.wd r1 e1
    cases rp_key r2 e2
    split at p2
    · next q eq =>
      rcases kv_val (k := k) h2 with ⟨_, z⟩ | ⟨v, d, z1, z2, z3⟩
      · rw [eq] at z; cases z
      · rw [eq] at z2; cases z2
        exact ⟨p, v, rfl, by rw [← z1]; exact dget_rd h1, hq _ (.py q) G2 H2 (s1.trans s2) z3 p2⟩
    · exact p2.elim
  · exact p2.elim
theorem pd_dget (hu : X.A.units + 1 < cLine) (ho : PD X B H0 o da) (he : PD X B H0 e db) (hf : PD X B H0 f dc) (m : M2 X o "get" apos e f cpos) : PD X B H0 (.Call (.Attribute o "get" apos) [e, f] [] cpos) (dDget da db dc) := PEmono (pe_dget2 hu ho he hf m) fun σ H Q ⟨G, S, post, hs, hd, hq⟩ => by
  refine ⟨G, S, _, hs, hd, fun v d G1 H1 s1 r1 p1 => ?_⟩
  split at p1
  · next kvs ek =>
    obtain ⟨p, vs, rfl, h1, h2⟩ := rp_kvs s1.wd r1 ek
    refine ⟨p, rfl, .inl ⟨vs, h1⟩, G1, S, _, hs.step s1, p1, fun v2 d2 G2 H2 s2 r2 p2 => ⟨G2, S, _, hs.step (s1.trans s2), p2, fun v3 d3 G3 H3 s3 r3 p3 => ?_⟩⟩
    split at p3
    · next k e2 =>
      cases rp_key r2 e2
      have r1 := Rp.up (s2.trans s3).toOld r1
      obtain ⟨p', vs', ep, h1, h2⟩ := rp_kvs s3.wd r1 ek
      cases ep
      refine ⟨_, dget_rd h1, ?_⟩
      split at p3
      · next q eq =>
        rcases kv_val (k := k) h2 with ⟨_, z⟩ | ⟨v, d, z1, z2, z3⟩
        · rw [eq] at z; cases z
        · rw [eq] at z2; cases z2
          rw [z1]
          exact hq v (.py q) G3 H3 (s1.trans (s2.trans s3)) z3 p3
      · next eq =>
        rcases kv_val (k := k) h2 with ⟨z, _⟩ | ⟨v, d, z1, z2, z3⟩
        · rw [z]; exact hq v3 d3 G3 H3 (s1.trans (s2.trans s3)) r3 p3
        · rw [eq] at z2; cases z2
    · exact p3.elim
  · exact p1.elim
theorem din_lift {σ : L2.St} {H : Hp} {Q : VK} (h : lE X.K B H0 (dDin db da) σ H Q) : tDIn (lE X.K B H0 db) (lE X.K B H0 da) σ H Q := by
  obtain ⟨G, S, post, hs, hd, hq⟩ := h
  refine ⟨G, S, _, hs, hd, fun v d G1 H1 s1 r1 p1 => ⟨G1, S, _, hs.step s1, p1, fun v2 d2 G2 H2 s2 r2 p2 => ?_⟩⟩
  have r1 := Rp.up s2.toOld r1
  split at p2
  · next kvs k e1 e2 =>
    obtain ⟨p, vs, rfl, h1, h2⟩ := rp_kvs s2.wd r2 e1
    cases rp_key r1 e2
    refine ⟨p, _, rfl, dget_rd h1, ?_⟩
    rcases kv_val (k := k) h2 with ⟨z1, z2⟩ | ⟨v, d, z1, z2, z3⟩
    · rw [z2] at p2; rw [z1]; exact hq _ _ G2 H2 (s1.trans s2) (Rp.bl _) p2
    · rw [z2] at p2; rw [z1]; exact hq _ _ G2 H2 (s1.trans s2) (Rp.bl _) p2
  · exact p2.elim
theorem pd_din (hu : X.A.units + 1 < cLine) (hi : PD X B H0 i db) (ho : PD X B H0 o da) (h1 : behindInMarks .In o = false := by first | exact nobehind _ (by decide) (by decide) | rfl) : PD X B H0 (.Compare i [.In] [o] pos) (dDin db da) := PEmono (pe_cmp (pc_din hu hi ho) h1) fun _ _ _ h => din_lift h
theorem pdt_din (hu : X.A.units + 1 < cLine) (hi : PD X B H0 i db) (ho : PD X B H0 o da) (h1 : behindInMarks .In o = false := by first | exact nobehind _ (by decide) (by decide) | rfl) : PDT X B H0 (.Compare i [.In] [o] pos) (dB (dDin db da)) := PTmono (pt_cmp (pc_din hu hi ho) h1) fun _ _ _ h => liftB (fun _ _ _ z => din_lift z) h
theorem psd_put {i : Nat} {x : Str} {p1 : Pos} {ek ev : Expr} {dk dv : DE} (hu : X.A.units + 1 < cLine) (hN : X.N[i]? = some x) (hv : Vis X.env.scope x) (hd : (x == ("__debug__" : Str)) = false) (hcd : (x == ("__classdict__" : Str)) = false) (hk : PD X B H0 ek dk) (hval : PD X B H0 ev dv)
    (hs : swapsWith ev (some (.Subscript (.Name x p1) ek pos')) pos.line X.env = pure false := by rfl) : PDS X B H0 (.Assign [.Subscript (.Name x p1) ek pos'] ev pos) (dPut i dk dv) := PSmono (ps_dput hu (pe_var hN hv hd hcd) hk hval hs) fun D σ H ⟨G0, E, ⟨G, S, hs, ho, hd⟩, q1, q2, q3, q4⟩ => by
  unfold dPut at hd
  split at hd
  · next kvs es =>
    obtain ⟨v0, h1, ⟨p, vs, rfl, w1, w2, w3⟩, h3⟩ := hs.slot i _ es
    refine ⟨G, S, _, hs, hd, fun v d G1 H1 s1 r1 p1 => ⟨_, h1, G1, S, _, hs.step s1, p1, fun v2 d2 G2 H2 s2 r2 p2 => ?_⟩⟩
    have st := s1.trans s2
    have r1 := Rp.up s2.toOld r1
    split at p2
    · next _ _ _ q key ek _ =>
      cases rp_key r2 ek
      have k := st.keep p _ w2 w1.1 w1.2
      refine ⟨p, _, rfl, DPut.k k.1 (szL (by rw [kv_len w3]; exact p2.1)), ?_⟩
      obtain ⟨y1, y2⟩ := (hs.step st).write (ho.trans st.toOld) i es trivial h1 k.2 w1.2 (h3 trivial p rfl) (u := .dK (putK vs key v)) (d' := .od (putD kvs key q)) ⟨p, _, rfl, ⟨k.2, w1.2⟩, upd_same, kv_put r1 (KvR.up st.up w3)⟩ trivial
      exact q1 _ _ ⟨G2, _, y1, y2, p2.2⟩
    · exact p2.elim
  · exact hd.elim
end

/-! ### a def by its reading over data -/
theorem rpall_get {K : Kf} {B : List Addr} {G H : Hp} : ∀ {ds : List D} {vs : List V} {i : Nat} {d : D}, RpAll K B G H ds vs → ds[i]? = some d → ∃ v, vs[i]? = some v ∧ Rp K B G H d v
  | _, _, _, _, .nil, e => by simp at e
  | _, _, 0, _, .cons h _, e => by
    simp at e; subst e; exact ⟨_, rfl, h⟩
  | _, _, i + 1, d, .cons _ t, e => by
    obtain ⟨v, h1, h2⟩ := rpall_get (i := i) (d := d) t (by simpa using e)
    exact ⟨v, by simpa using h1, h2⟩
/-- the slots at the entry -/
def startS (n : Nat) (ds : List D) : Slots := ds.map some ++ List.replicate (n - ds.length) none
theorem sl_start {K : Kf} {B : List Addr} {N : List Str} {G H : Hp} {ds : List D} {vs : List V} (w : Wd K B G H) (r : RpAll K B G H ds vs) (hf : ∀ d ∈ ds, ¬ d.own) : Sl K B H (startS N.length ds) (L2.start N vs) G H := by
  have hl := r.length
  refine ⟨w, ?_, fun i d h => ?_, fun i j di dj p _ h1 _ o1 _ => ?_⟩
  · unfold startS L2.start
    rw [List.length_append, List.length_append, List.length_map, List.length_map, List.length_replicate, List.length_replicate, hl]
  all_goals
    have key : ∀ (i : Nat) (d : D), (startS N.length ds)[i]? = some (some d) → ds[i]? = some d := fun i d h => by
      unfold startS at h
      by_cases hi : i < ds.length
      · rw [List.getElem?_append_left (by simpa using hi), List.getElem?_map] at h
        cases q : ds[i]? with
        | none => rw [q] at h; cases h
        | some z => rw [q] at h; cases h; rfl
      · rw [List.getElem?_append_right (by simpa using hi), List.getElem?_replicate] at h
        split at h <;> cases h
  · have h := key i d h
    obtain ⟨v, h1, h2⟩ := rpall_get r h
    refine ⟨v, ?_, h2, fun o => (hf d (List.mem_of_getElem? h) o).elim⟩
    unfold L2.start
    have hi : i < vs.length := (List.getElem?_eq_some_iff.mp h1).1
    rw [List.getElem?_append_left (by simpa using hi), List.getElem?_map, h1]; rfl
  · exact fun _ _ => hf di (List.mem_of_getElem? (key i di h1)) o1
section
variable {P : Program} {w : World} {K : Kf} {mg : Str → Option Value} {base : Heap}
/-- THE RULE: a def's body over data -/
theorem okD {x qual : Str} {params : Arguments} {body : List Stmt} {scope : Scope} {f : Addr} {fd : FuncData} {N ps : List Str} {k : Nat} {C : Ct} (F : FunD K x qual params body scope [] [] f fd) (S : FnScope N ps scope) (len : ∀ B ds post, C B ds post → ds.length = ps.length ∧ ∀ d ∈ ds, ¬ d.own)
    (hbody : ∀ (cdv : Value) (A : Around) (outer : List Env) (s : Shared) (H : Hp) (E : XK) (B : List Addr) (ds : List D) (post : D → Prop), Room k (A.deeper (envOfC qual scope s.heap.objs.size f cdv)) → C B ds post →
      ∃ t, PDSs (cxOf CX0 P w K mg base N qual scope f cdv A outer s H E).nox B H body t ∧ t { nx := fun _ => post (.py .none), rt := post } (startS N.length ds)) : FnOk P w K mg base CX0 (k + 1) f fd ps (spD K C) := by
  refine F.ok S (fun vs H Q E h => ?_) (fun cdv A outer s H vs Q E hr h => ?_)
  · obtain ⟨B, G, ds, post, _, r, c, _⟩ := h
    rw [← r.length]; exact (len B ds post c).1
  · obtain ⟨B, G, ds, post, wd, r, c, hq⟩ := h
    obtain ⟨t, ht, q⟩ := hbody cdv A outer s H E B ds post hr c
    refine ⟨_, ht.nox, ⟨G, _, ⟨G, _, sl_start wd r (len B ds post c).2, Old.refl, q⟩, fun σ' H' ⟨G', S', h1, h2, h3⟩ => ?_, fun v H' ⟨G', d, h1, h2, h3, _, h4⟩ => ?_, fun _ _ ⟨_, _, _, _, z⟩ => z, fun _ _ ⟨_, _, _, _, z⟩ => z⟩⟩
    · exact hq .non (.py .none) G' H' ⟨h2, h1.wd⟩ Rp.non h3
    · exact hq v d G' H' ⟨h2, h1⟩ h3 h4
end
end DL
/- ==== DLg ==== -/
/-! DLg: the names of the top, calls in short. -/
namespace DL
open PySem PySem.Spec PyProof.Rows L2 RZ

/-- the built-in names that the top leaves alone -/
structure Bl (mg : Str → Option Value) : Prop where
  len : mg "len" = none
  range : mg "range" = none
  int : mg "int" = none
  bool : mg "bool" = none
  str : mg "str" = none
  list : mg "list" = none
  tuple : mg "tuple" = none
  set : mg "set" = none
  max : mg "max" = none
  min : mg "min" = none
  sum : mg "sum" = none
  all : mg "all" = none
  any : mg "any" = none
  sorted : mg "sorted" = none
  zip : mg "zip" = none
  enumerate : mg "enumerate" = none
  isinstance : mg "isinstance" = none
  repr : mg "repr" = none
  ValueError : mg "ValueError" = none
def blNames : List Str := ["len", "range", "int", "bool", "str", "list", "tuple", "set", "max", "min", "sum", "all", "any", "sorted", "zip", "enumerate", "isinstance", "repr", "ValueError"]
theorem bo_len : bootBuiltins "len" = some (.builtin "len") := by decide +kernel
theorem bo_int : bootBuiltins "int" = some (.type "int") := by decide +kernel
theorem bo_bool : bootBuiltins "bool" = some (.type "bool") := by decide +kernel
theorem bo_str : bootBuiltins "str" = some (.type "str") := by decide +kernel
theorem bo_list : bootBuiltins "list" = some (.type "list") := by decide +kernel
theorem bo_tuple : bootBuiltins "tuple" = some (.type "tuple") := by decide +kernel
theorem bo_max : bootBuiltins "max" = some (.builtin "max") := by decide +kernel
theorem bo_min : bootBuiltins "min" = some (.builtin "min") := by decide +kernel
theorem bo_sum : bootBuiltins "sum" = some (.builtin "sum") := by decide +kernel
theorem bo_all : bootBuiltins "all" = some (.builtin "all") := by decide +kernel
theorem bo_any : bootBuiltins "any" = some (.builtin "any") := by decide +kernel
theorem bo_sorted : bootBuiltins "sorted" = some (.builtin "sorted") := by decide +kernel
theorem bo_isinstance : bootBuiltins "isinstance" = some (.builtin "isinstance") := by decide +kernel
theorem bo_repr : bootBuiltins "repr" = some (.builtin "repr") := by decide +kernel

/-- a def of the top as it stands -/
def Def (K : Kf) (mg : Str → Option Value) (x : Str) (st : Stmt) : Prop := ∃ (f : Addr) (fd : FuncData), mg x = some (.ref f) ∧ FunD K x x (defArgs st) (defBody st) (defScope st) [] [] f fd
/-- how it takes its arguments, which it is -/
def BindsL (K : Kf) (f : Addr) (fd : FuncData) (ps : List Str) : Prop := Binds K fd ps [] ∧ ∃ oc od osl, K.lookup f = some ⟨oc, od, .func fd, osl⟩
theorem BindsL.of {K : Kf} {x q : Str} {pr : Arguments} {bd : List Stmt} {sc : Scope} {dvs : List V} {kws : List (Str × V)} {f : Addr} {fd : FuncData} {ps : List Str} (F : FunD K x q pr bd sc dvs kws f fd) (b : Binds K fd ps []) : BindsL K f fd ps :=
  let ⟨oc, od, _, _, _, _, _, _, _, osl, _, lk, _⟩ := F.ex; ⟨b, oc, od, osl, lk⟩
/-- a def that may be called, by its contract -/
def Cal (P : Program) (w : World) (K : Kf) (mg : Str → Option Value) (base : Heap) (x : Str) (ps : List Str) (k : Nat) (C : Ct) : Prop := ∃ (f : Addr) (fd : FuncData), mg x = some (.ref f) ∧ FnOk P w K mg base CX0 k f fd ps (spD K C) ∧ PySem.W.keepIn K (.ref f) = true ∧ BindsL K f fd ps
theorem calD {P : Program} {w : World} {K : Kf} {mg : Str → Option Value} {base : Heap} {x : Str} {st : Stmt} {N ps : List Str} {k : Nat} {C : Ct} (d : Def K mg x st) (S : FnScope N ps (defScope st)) (len : ∀ B ds post, C B ds post → ds.length = ps.length ∧ ∀ d ∈ ds, ¬ d.own)
    (hb : ∀ (dV kV doc pm : Value) (an : Option Addr) (cdv ct : Value) (us : List Value), us.length = ps.length → bindArgs (PySem.W.fnOf x x (defArgs st) (defBody st) (defScope st) .none kV doc pm an cdv ct) ⟨us, []⟩ = pure (ps.zip us))
    (hbody : ∀ (f : Addr) (cdv : Value) (A : Around) (outer : List Env) (s : Shared) (H : Hp) (E : XK) (B : List Addr) (ds : List D) (post : D → Prop), Room k (A.deeper (envOfC x (defScope st) s.heap.objs.size f cdv)) → C B ds post →
      ∃ t, PDSs (cxOf CX0 P w K mg base N x (defScope st) f cdv A outer s H E).nox B H (defBody st) t ∧ t { nx := fun _ => post (.py .none), rt := post } (startS N.length ds)) : Cal P w K mg base x ps (k + 1) C := by
  obtain ⟨f, fd, hm, F⟩ := d
  refine ⟨f, fd, hm, okD F S len (fun cdv A outer s H E B ds post hr c => hbody f cdv A outer s H E B ds post hr c), F.kp, ?_⟩
  refine BindsL.of F (FunD.bindsN F ?_)
  intro kV doc pm an cdv ct us hl
  exact hb .none kV doc pm an cdv ct us hl
theorem Cal.mono {P : Program} {w : World} {K : Kf} {mg : Str → Option Value} {base : Heap} {x : Str} {ps : List Str} {j k : Nat} {C : Ct} (c : Cal P w K mg base x ps j C) (h : j ≤ k) : Cal P w K mg base x ps k C :=
  let ⟨f, fd, a, b, c, d⟩ := c; ⟨f, fd, a, b.mono h, c, d⟩
/-- a weaker contract -/
theorem Cal.imp {P : Program} {w : World} {K : Kf} {mg : Str → Option Value} {base : Heap} {x : Str} {ps : List Str} {k : Nat} {C C' : Ct} (c : Cal P w K mg base x ps k C) (h : ∀ B ds post, C' B ds post → C B ds post) : Cal P w K mg base x ps k C' :=
  let ⟨f, fd, a, b, c, d⟩ := c; ⟨f, fd, a, b.imp fun vs H Q E ⟨B, G, ds, post, h1, h2, h3, h4⟩ => ⟨B, G, ds, post, h1, h2, h _ _ _ h3, h4⟩, c, d⟩
section
variable {X : Cx} {B : List Addr} {H0 : Hp} {e e2 : Expr} {es : List Expr} {de db : DE} {ra : DA} {p pos : Pos} {x : Str}
theorem pd_cal {ps : List Str} {j k : Nat} {C : Ct} (c : Cal X.prog X.w X.K X.mg X.base x ps j C) (hr : Room k X.A) (ha : PDA X B H0 (e :: es) ra) (hjk : j ≤ k := by decide) (hg : Gl X x := by rfl) (hdb : (x == ("__debug__" : Str)) = false := by decide)
    (he : starEach (e :: es) X.env = (false, eval e X.env) :: starEach es X.env := by rfl) (hpl : (backTo pos (starEach es X.env)).any (·.1) = false := by rfl) : PD X B H0 (.Call (.Name x p) (e :: es) [] pos) (dCall B C ra) :=
  let ⟨f, fd, hm, F, kp, b⟩ := c
  pd_call F (hr.mono hjk) hg hm kp b.1 pass0 ha hdb he hpl
theorem pd_len (T : Bl X.mg) (ha : PD X B H0 e de) (hg : Gl X "len" := by rfl) (s2 : starEach [e] X.env = (false, eval e X.env) :: starEach [] X.env := by rfl) (hpl : (backTo pos (starEach [] X.env)).any (·.1) = false := by rfl) : PD X B H0 (.Call (.Name "len" p) [e] [] pos) (dCB cLen (dCons de dNil)) :=
  pd_callB call_len cd_len hg T.len bo_len (pda_cons ha pda_nil s2) (by decide) (by decide) s2 hpl
theorem pd_int1 (T : Bl X.mg) (ha : PD X B H0 e de) (hg : Gl X "int" := by rfl) (s2 : starEach [e] X.env = (false, eval e X.env) :: starEach [] X.env := by rfl) (hpl : (backTo pos (starEach [] X.env)).any (·.1) = false := by rfl) : PD X B H0 (.Call (.Name "int" p) [e] [] pos) (dCB cInt (dCons de dNil)) :=
  pd_callTy call_int1 cd_int hg T.int bo_int (pda_cons ha pda_nil s2) (by decide) (by decide) s2 hpl
theorem pd_tupleOf (T : Bl X.mg) (ha : PD X B H0 e de) (hg : Gl X "tuple" := by rfl) (s2 : starEach [e] X.env = (false, eval e X.env) :: starEach [] X.env := by rfl) (hpl : (backTo pos (starEach [] X.env)).any (·.1) = false := by rfl) : PD X B H0 (.Call (.Name "tuple" p) [e] [] pos) (dCB cTuple (dCons de dNil)) :=
  pd_callTy call_tuple_of cd_tuple hg T.tuple bo_tuple (pda_cons ha pda_nil s2) (by decide) (by decide) s2 hpl
theorem pd_listOf (T : Bl X.mg) (ha : PD X B H0 e de) (hg : Gl X "list" := by rfl) (s2 : starEach [e] X.env = (false, eval e X.env) :: starEach [] X.env := by rfl) (hpl : (backTo pos (starEach [] X.env)).any (·.1) = false := by rfl) : PD X B H0 (.Call (.Name "list" p) [e] [] pos) (dCB cList (dCons de dNil)) :=
  pd_callTy call_list_of cd_list hg T.list bo_list (pda_cons ha pda_nil s2) (by decide) (by decide) s2 hpl
theorem pd_sum (T : Bl X.mg) (hc : X.calm = true) (ha : PD X B H0 e de) (hg : Gl X "sum" := by rfl) (s2 : starEach [e] X.env = (false, eval e X.env) :: starEach [] X.env := by rfl) (hpl : (backTo pos (starEach [] X.env)).any (·.1) = false := by rfl) : PD X B H0 (.Call (.Name "sum" p) [e] [] pos) (dCB cSum (dCons de dNil)) :=
  pd_callB (cr_sum hc) cd_sum hg T.sum bo_sum (pda_cons ha pda_nil s2) (by decide) (by decide) s2 hpl
theorem pd_maxL (T : Bl X.mg) (hc : X.calm = true) (ha : PD X B H0 e de) (hg : Gl X "max" := by rfl) (s2 : starEach [e] X.env = (false, eval e X.env) :: starEach [] X.env := by rfl) (hpl : (backTo pos (starEach [] X.env)).any (·.1) = false := by rfl) : PD X B H0 (.Call (.Name "max" p) [e] [] pos) (dCB cMaxL (dCons de dNil)) :=
  pd_callB (cr_max hc) cd_maxL hg T.max bo_max (pda_cons ha pda_nil s2) (by decide) (by decide) s2 hpl
theorem pd_minL (T : Bl X.mg) (hc : X.calm = true) (ha : PD X B H0 e de) (hg : Gl X "min" := by rfl) (s2 : starEach [e] X.env = (false, eval e X.env) :: starEach [] X.env := by rfl) (hpl : (backTo pos (starEach [] X.env)).any (·.1) = false := by rfl) : PD X B H0 (.Call (.Name "min" p) [e] [] pos) (dCB cMinL (dCons de dNil)) :=
  pd_callB (cr_min hc) cd_minL hg T.min bo_min (pda_cons ha pda_nil s2) (by decide) (by decide) s2 hpl
theorem pd_all (T : Bl X.mg) (hc : X.calm = true) (ha : PD X B H0 e de) (hg : Gl X "all" := by rfl) (s2 : starEach [e] X.env = (false, eval e X.env) :: starEach [] X.env := by rfl) (hpl : (backTo pos (starEach [] X.env)).any (·.1) = false := by rfl) : PD X B H0 (.Call (.Name "all" p) [e] [] pos) (dCB cAll (dCons de dNil)) :=
  pd_callB (cr_all hc) cd_all hg T.all bo_all (pda_cons ha pda_nil s2) (by decide) (by decide) s2 hpl
theorem pd_any (T : Bl X.mg) (hc : X.calm = true) (ha : PD X B H0 e de) (hg : Gl X "any" := by rfl) (s2 : starEach [e] X.env = (false, eval e X.env) :: starEach [] X.env := by rfl) (hpl : (backTo pos (starEach [] X.env)).any (·.1) = false := by rfl) : PD X B H0 (.Call (.Name "any" p) [e] [] pos) (dCB cAny (dCons de dNil)) :=
  pd_callB (cr_any hc) cd_any hg T.any bo_any (pda_cons ha pda_nil s2) (by decide) (by decide) s2 hpl
theorem pd_sortedL (T : Bl X.mg) (ha : PD X B H0 e de) (hg : Gl X "sorted" := by rfl) (s2 : starEach [e] X.env = (false, eval e X.env) :: starEach [] X.env := by rfl) (hpl : (backTo pos (starEach [] X.env)).any (·.1) = false := by rfl) : PD X B H0 (.Call (.Name "sorted" p) [e] [] pos) (dCB cSorted (dCons de dNil)) :=
  pd_callB cr_sortedI cd_sorted hg T.sorted bo_sorted (pda_cons ha pda_nil s2) (by decide) (by decide) s2 hpl
theorem pd_max2 (T : Bl X.mg) (hc : X.calm = true) (ha : PD X B H0 e de) (hb : PD X B H0 e2 db) (hg : Gl X "max" := by rfl) (s1 : starEach [e, e2] X.env = (false, eval e X.env) :: starEach [e2] X.env := by rfl) (s2 : starEach [e2] X.env = (false, eval e2 X.env) :: starEach [] X.env := by rfl)
    (hpl : (backTo pos (starEach [e2] X.env)).any (·.1) = false := by rfl) : PD X B H0 (.Call (.Name "max" p) [e, e2] [] pos) (dCB cMax2 (dCons de (dCons db dNil))) :=
  pd_callB (call_max2 hc) cd_max2 hg T.max bo_max (pda_cons ha (pda_cons hb pda_nil s2) s1) (by decide) (by decide) s1 hpl
theorem pd_min2 (T : Bl X.mg) (hc : X.calm = true) (ha : PD X B H0 e de) (hb : PD X B H0 e2 db) (hg : Gl X "min" := by rfl) (s1 : starEach [e, e2] X.env = (false, eval e X.env) :: starEach [e2] X.env := by rfl) (s2 : starEach [e2] X.env = (false, eval e2 X.env) :: starEach [] X.env := by rfl)
    (hpl : (backTo pos (starEach [e2] X.env)).any (·.1) = false := by rfl) : PD X B H0 (.Call (.Name "min" p) [e, e2] [] pos) (dCB cMin2 (dCons de (dCons db dNil))) :=
  pd_callB (call_min2 hc) cd_min2 hg T.min bo_min (pda_cons ha (pda_cons hb pda_nil s2) s1) (by decide) (by decide) s1 hpl

/-! isinstance of data with a built-in class -/
def D.ty : D → Option String
  | .py .none => some "NoneType"
  | .py (.bool _) => some "bool"
  | .py (.int _) => some "int"
  | .py (.str _) => some "str"
  | .py (.list _) => some "list"
  | .py (.tuple _) => some "tuple"
  | .py (.dict _) => some "dict"
  | .ol _ => some "list"
  | .od _ => some "dict"
  | .dic _ => some "dict"
  | _ => none
def isiT (a b : String) : Bool := a == b || (a == "bool" && b == "int")
def cIsi : List D → (D → Prop) → Prop := fun xs post => match xs with
  | [x, .raw (.ty n)] => match x.ty with
    | some t => (n = "int" ∨ n = "bool" ∨ n = "str" ∨ n = "list" ∨ n = "tuple") ∧ post (.py (.bool (isiT t n)))
    | none => False
  | _ => False
theorem kit_tab : ∀ a ∈ ["NoneType", "bool", "int", "str", "list", "tuple", "dict"], ∀ b ∈ ["int", "bool", "str", "list", "tuple"], kitB a b = some (isiT a b) := by decide +kernel
theorem ty_mem {x : D} {t : String} (h : x.ty = some t) : t ∈ ["NoneType", "bool", "int", "str", "list", "tuple", "dict"] := by
  cases x with
  | py q => cases q <;> first | (cases h; decide) | cases h
  | ol _ => cases h; decide
  | od _ => cases h; decide
  | dic _ => cases h; decide
  | _ => cases h
theorem tyX_sqT {K : Kf} {H : Hp} {a : Addr} {xs : List V} (h : SqT K H a xs) : TyX K H (.ref a) (.type "tuple") := by
  rcases h with (h | ⟨o, h⟩) | ⟨o, its, n, h, hc, _⟩
  · exact .base (.tup h)
  · exact .fTuple h
  · exact .kTuple h hc
theorem ty_x {K : Kf} {B : List Addr} {G H : Hp} (w : Wd K B G H) {x : D} {v : V} {t : String} (r : Rp K B G H x v) (h : x.ty = some t) : TyX K H v (.type t) := by
  cases x with
  | py q =>
    cases q with
    | none => cases h; cases r; exact .base .non
    | bool b => cases h; cases r; exact .base (.bl _)
    | int b => cases h; cases r; exact .base (.int _)
    | str b => cases h; cases r; exact .base (.str _)
    | list b => cases h; cases r with | lst h1 h2 => exact .base (.lst (w.sub _ _ h1))
    | tuple b => cases h; cases r with | tup h1 h2 => exact tyX_sqT (SqT.up w.sub h1)
    | dict _ => cases r
  | ol _ => cases h; obtain ⟨p, vs, rfl, _, h1, _⟩ := r; exact .base (.lst h1)
  | od _ => cases h; obtain ⟨p, vs, rfl, _, h1, _⟩ := r; exact .base (.dK h1)
  | dic _ => cases h; obtain ⟨p, vs, rfl, h1, _⟩ := r; exact .base (.dK (w.sub _ _ h1))
  | _ => cases h
theorem cd_isi {K : Kf} : CallD K B (rIsi K) cIsi := fun G H xs dxs post Q w r hf hq => by
  unfold cIsi at hf
  split at hf
  · next x n =>
    cases r with
    | cons rx rn =>
      cases rn with
      | cons ry rn =>
        cases rn
        split at hf
        · next t e =>
          cases ry
          have hn : n ∈ ["int", "bool", "str", "list", "tuple"] := by
            rcases hf.1 with z | z | z | z | z <;> subst z <;> decide
          exact ⟨_, _, _, _, _, rfl, .ty n, ty_x w rx e, kit_ty (kit_tab t (ty_mem e) n hn), stay w hq (.bl _) hf.2⟩
        · exact hf.elim
  · exact hf.elim
theorem pd_ty {x : Str} {n : String} (hg : Gl X x) (hm : X.mg x = none) (hv : bootBuiltins x = some (.type n)) (hn : x ≠ "__name__" := by decide) (hd : (x == ("__debug__" : Str)) = false := by decide) : PD X B H0 (.Name x pos) (dC (.raw (.ty n))) :=
  PEmono (pe_bltn (v := .ty n) hg hm hv rfl hn hd) fun σ H Q ⟨G, S, post, hs, h, hq⟩ => hq _ (.raw (.ty n)) G H (Stp.refl hs.wd) rfl h
theorem pd_isi {c : Expr} {n : String} (T : Bl X.mg) (ha : PD X B H0 e de) (hc : PD X B H0 c (dC (.raw (.ty n)))) (hg : Gl X "isinstance" := by rfl) (s1 : starEach [e, c] X.env = (false, eval e X.env) :: starEach [c] X.env := by rfl) (s2 : starEach [c] X.env = (false, eval c X.env) :: starEach [] X.env := by rfl)
    (hpl : (backTo pos (starEach [c] X.env)).any (·.1) = false := by rfl) : PD X B H0 (.Call (.Name "isinstance" p) [e, c] [] pos) (dCB cIsi (dCons de (dCons (dC (.raw (.ty n))) dNil))) :=
  pd_callB call_isi cd_isi hg T.isinstance bo_isinstance (pda_cons ha (pda_cons hc pda_nil s2) s1) (by decide) (by decide) s1 hpl
end
/-! targets of a fixed length -/
def Rch (g : DG) : Prop := ∀ {d S post}, g d S post → ∃ S', post S'
def Rchs (r : DGs) : Prop := ∀ {d S post}, r d S post → ∃ S', post S'
theorem rch_name {i : Nat} : Rch (dgName i) := fun h => ⟨_, h⟩
theorem rchs_nil : Rchs dgNil := fun {d S post} h => by
  unfold dgNil at h
  split at h
  · exact ⟨_, h⟩
  · exact h.elim
theorem rchs_cons {g : DG} {r : DGs} (h1 : Rch g) (h2 : Rchs r) : Rchs (dgCons g r) := fun {d S post} h => by
  unfold dgCons at h
  split at h
  · obtain ⟨S', k⟩ := h1 h; exact h2 k
  · exact h.elim
theorem rch_tup {r : DGs} (h : Rchs r) : Rch (dgTup r) := fun {d S post} k => by
  unfold dgTup at k
  split at k
  · exact h k
  · exact k.elim
theorem lg_nil : ∀ {ds S post}, dgNil ds S post → ds.length = 0 := fun {ds S post} h => by
  unfold dgNil at h
  split at h
  · rfl
  · exact h.elim
theorem lg_cons {g : DG} {r : DGs} {n : Nat} (h1 : Rch g) (h2 : ∀ {ds S post}, r ds S post → ds.length = n) : ∀ {ds S post}, dgCons g r ds S post → ds.length = n + 1 := fun {ds S post} h => by
  unfold dgCons at h
  split at h
  · obtain ⟨S', k⟩ := h1 h
    rw [List.length_cons, h2 k]
  · exact h.elim
/-- a, b, .. = e, e a tuple -/
def dAsg (e : DE) (g : DG) : DS := fun E S => e S fun d => match d with
  | .py q => g q S E.nx
  | _ => False
section
variable {X : Cx} {B : List Addr} {H0 : Hp} {e tg : Expr} {de : DE} {g : DG} {is : List Nat} {pos : Pos}
theorem psd_asgG (he : PD X B H0 e de) (hg : PDG X B H0 is tg g) (hs : swapsWithSole [tg] e pos.line X.env = pure false := by rfl) (hw : swappedStores [tg] e X.env = pure none := by rfl) (h1 : (assignEach [tg] X.env).map (·.2) = [assign tg X.env] := by rfl) :
    PDS X B H0 (.Assign [tg] e pos) (dAsg de g) := PSmono (ps_asg he hg hs hw h1) fun D σ H ⟨G0, E, ⟨G, S, hs, ho, hd⟩, q1, q2, q3, q4⟩ =>
  ⟨G, S, _, hs, hd, fun v d G' H' s r p => by
    split at p
    · exact ⟨G', S, _, _, hs.step s, r, p, fun S' σ' k1 _ _ k2 => q1 _ _ ⟨G', S', k1, ho.trans s.toOld, k2⟩⟩
    · exact p.elim⟩
end
end DL
/- ==== DLh ==== -/
/-! DLh: small words for readings. -/
namespace DL
open PySem PySem.Spec PyProof.Rows L2 RZ
theorem at_st {t : DS} {E : DEnds} {S S' : Slots} (e : S = S') (h : t E S') : t E S := e ▸ h
theorem take_more {α : Type} : ∀ {l : List α} {i : Nat} {x : α}, l[i]? = some x → l.take (i + 1) = l.take i ++ [x]
  | [], i, x, h => by simp at h
  | a :: l, 0, x, h => by
    have e : a = x := Option.some.inj h
    subst e; rfl
  | a :: l, i + 1, x, h => by
    have ih := take_more (l := l) (i := i) (x := x) h
    show a :: l.take (i + 1) = a :: l.take i ++ [x]
    rw [ih]; rfl
theorem map_get {α β : Type} {f : α → β} {l : List α} {i : Nat} {y : β} (h : (l.map f)[i]? = some y) : ∃ x, l[i]? = some x ∧ f x = y := by
  rw [List.getElem?_map] at h
  cases e : l[i]? with
  | none => rw [e] at h; cases h
  | some x => rw [e] at h; exact ⟨x, rfl, Option.some.inj h⟩
theorem range_get {n i : Nat} {f : Nat → PyData} {d : PyData} (h : ((List.range n).map f)[i]? = some d) : i < n ∧ d = f i := by
  obtain ⟨hl, he⟩ := List.getElem?_eq_some_iff.mp h
  rw [List.length_map, List.length_range] at hl
  rw [List.getElem_map, List.getElem_range] at he
  exact ⟨hl, he.symm⟩
theorem if_dec {c : Prop} [Decidable c] {A B : Prop} (h1 : c → A) (h2 : ¬ c → B) : if decide c = true then A else B := by
  by_cases h : c
  · rw [if_pos (decide_eq_true h)]; exact h1 h
  · rw [if_neg (by simp [h])]; exact h2 h
theorem if_b {c : Bool} {A B : Prop} (h1 : c = true → A) (h2 : c = false → B) : if c = true then A else B := by
  cases c with
  | true => rw [if_pos rfl]; exact h1 rfl
  | false => rw [if_neg Bool.false_ne_true]; exact h2 rfl
theorem if_t {c : Bool} {A B : Prop} (h : c = true) (h1 : A) : if c = true then A else B := by rw [if_pos h]; exact h1
theorem if_f {c : Bool} {A B : Prop} (h : c = false) (h1 : B) : if c = true then A else B := by rw [if_neg (by rw [h]; decide)]; exact h1
theorem cmul_r {i j : Int} (h : -(2 ^ 64) < j ∧ j < 2 ^ 64) : CMul i j := .inr h
theorem cmul_l {i j : Int} (h : -(2 ^ 64) < i ∧ i < 2 ^ 64) : CMul i j := .inl h
/-- the arguments are plain -/
theorem free_py {d : PyData} : ¬ (D.py d).own := fun z => z
theorem free_raw {v : V} : ¬ (D.raw v).own := fun z => z
theorem free_dic {v} : ¬ (D.dic v).own := fun z => z
theorem free_ex {a b v} : ¬ (D.ex a b v).own := fun z => z
theorem free_lk {v} : ¬ (D.lk v).own := fun z => z
theorem free_fn {L} : ¬ (D.fn L).own := fun z => z
theorem free_ins {p c v} : ¬ (D.ins p c v).own := fun z => z

theorem atI_0 {α : Type} {x : α} {xs : List α} : atI (x :: xs) 0 = some x := atI_nat (j := 0) rfl
theorem atI_1 {α : Type} {x y : α} {xs : List α} : atI (x :: y :: xs) 1 = some y := atI_nat (j := 1) rfl
theorem atI_2 {α : Type} {x y z : α} {xs : List α} : atI (x :: y :: z :: xs) 2 = some z := atI_nat (j := 2) rfl
theorem atI_3 {α : Type} {x y z u : α} {xs : List α} : atI (x :: y :: z :: u :: xs) 3 = some u := atI_nat (j := 3) rfl
/-! < of ints or of texts -/
def fLtA : D → D → (D → Prop) → Prop := fun x y post => match x, y with
  | .py (.int i), .py (.int j) => post (.py (.bool (decide (i < j))))
  | .py (.str i), .py (.str j) => post (.py (.bool (decide (i.cps.toList < j.cps.toList))))
  | _, _ => False
theorem op_ltA {X : Cx} : OpR X (compareOp .Lt) (fun x y H Q => (rI0 fun i j => .bl (decide (i < j))) x y H Q ∨ ∃ i j, x = .str i ∧ y = .str j ∧ Q (.bl (decide (i.cps.toList < j.cps.toList))) H) := OpR.or op_lt op_lt_str
theorem od_ltA {K : Kf} {B : List Addr} : OpD K B (fun x y H Q => (rI0 fun i j => .bl (decide (i < j))) x y H Q ∨ ∃ i j, x = .str i ∧ y = .str j ∧ Q (.bl (decide (i.cps.toList < j.cps.toList))) H) fLtA := fun G H x y dx dy post Q w rx ry hf hq => by
  unfold fLtA at hf
  split at hf
  · cases rx; cases ry; exact .inl ⟨_, _, rfl, rfl, stay w hq (.bl _) hf⟩
  · cases rx; cases ry; exact .inr ⟨_, _, rfl, rfl, stay w hq (.bl _) hf⟩
  · exact hf.elim
/-! in, not in: flat things -/
theorem flat_all {K : Kf} {G : Hp} : ∀ {vs : List V} {ds : List PyData}, DtAll K G vs ds → ds.all flatP = true → vs.all flatV = true
  | _, _, .nil, _ => rfl
  | _, _, .cons h t, e => by
    rw [List.all_cons, Bool.and_eq_true] at e ⊢
    refine ⟨?_, flat_all t e.2⟩
    cases h <;> first | rfl | cases e.1
theorem flat_one {K : Kf} {G : Hp} {v : V} {d : PyData} (h : Dt K G v d) (e : flatP d = true) : flatV v = true := by
  cases h <;> first | rfl | cases e
theorem eqv_flat {K : Kf} {G : Hp} {v u : V} {d e : PyData} (h : Dt K G v d) (h' : Dt K G u e) (hd : flatP d = true) (he : flatP e = true) : eqV v u = PyData.eqv d e := by
  cases h with
  | lst _ _ => cases hd
  | tup _ _ => cases hd
  | non => cases h' <;> first | exact (Bool.false_ne_true he).elim | simp [eqV, PyData.eqv]
  | bl b => cases h' <;> first | exact (Bool.false_ne_true he).elim | simp [eqV, PyData.eqv]
  | int b => cases h' <;> first | exact (Bool.false_ne_true he).elim | simp [eqV, PyData.eqv]
  | str b => cases h' <;> first | exact (Bool.false_ne_true he).elim | simp [eqV, PyData.eqv]
theorem inv_flat {K : Kf} {G : Hp} {x : V} {d : PyData} (h : Dt K G x d) (hd : flatP d = true) : ∀ {vs : List V} {ds : List PyData}, DtAll K G vs ds → ds.all flatP = true → inV x vs = ds.any fun e => PyData.eqv e d
  | _, _, .nil, _ => rfl
  | _, _, .cons h1 t, e => by
    rw [List.all_cons, Bool.and_eq_true] at e
    have ih := inv_flat h hd t e.2
    unfold inV at ih ⊢
    rw [List.any_cons, List.any_cons, ih, eqv_flat h1 h e.1 hd]
def fIn (neg : Bool) : D → D → (D → Prop) → Prop := fun x y post => match x, y.items with
  | .py d, some ds => flatP d = true ∧ ds.all flatP = true ∧ post (.py (.bool (if neg then !(ds.any fun e => PyData.eqv e d) else ds.any fun e => PyData.eqv e d)))
  | _, _ => False
theorem od_inN {K : Kf} {B : List Addr} {neg : Bool} : OpD K B (rIn K neg) (fIn neg) := fun G H x y dx dy post Q w rx ry hf hq => by
  unfold fIn at hf
  split at hf
  · next d ds e =>
    obtain ⟨f1, f2, hf⟩ := hf
    have key : ∀ {vs : List V}, DtAll K G vs ds → (if neg = true then !inV x vs else inV x vs) = (if neg then !(ds.any fun e => PyData.eqv e d) else ds.any fun e => PyData.eqv e d) := fun h => by rw [inv_flat rx f1 h f2]
    cases dy with
    | py q =>
      cases q with
      | list l =>
        cases e
        cases ry with
        | lst h1 h2 => exact ⟨_, _, rfl, .inl (SqL.of (w.sub _ _ h1)), flat_one rx f1, flat_all h2 f2, by rw [key h2]; exact stay w hq (.bl _) hf⟩
      | tuple l =>
        cases e
        cases ry with
        | tup h1 h2 => exact ⟨_, _, rfl, .inr (SqT.up w.sub h1), flat_one rx f1, flat_all h2 f2, by rw [key h2]; exact stay w hq (.bl _) hf⟩
      | _ => cases e
    | ol l =>
      cases e
      obtain ⟨p, vs, rfl, _, h1, h2⟩ := ry
      exact ⟨_, _, rfl, .inl (SqL.of h1), flat_one rx f1, flat_all h2 f2, by rw [key h2]; exact stay w hq (.bl _) hf⟩
    | _ => cases e
  · exact hf.elim
theorem od_in {K : Kf} {B : List Addr} : OpD K B (rIn K false) (fIn false) := od_inN
theorem od_notIn {K : Kf} {B : List Addr} : OpD K B (rIn K true) (fIn true) := od_inN
/-! three at once -/
def dPar3 (i j l : Nat) (a b c : DE) : DS := fun E S => a S fun x => b S fun y => c S fun z => match x, y, z with
  | .py x, .py y, .py z => E.nx (((S.set i (some (.py x))).set j (some (.py y))).set l (some (.py z)))
  | _, _, _ => False
section
variable {X : Cx} {B : List Addr} {H0 : Hp} {da db dc : DE} {pos : Pos}
theorem psd_par3 {i j l : Nat} {x y z : Str} {a b c : Expr} {px py pz pt : Pos} {kt k2 pt2} (hc : X.calm = true) (hN : X.N.Nodup) (hi : X.N[i]? = some x) (hj : X.N[j]? = some y) (hl : X.N[l]? = some z) (hij : i ≠ j) (hil : i ≠ l) (hjl : j ≠ l)
    (hx : X.env.scope.names.lookup x = some .local) (hy : X.env.scope.names.lookup y = some .local) (hz : X.env.scope.names.lookup z = some .local) (ha : PD X B H0 a da) (hb : PD X B H0 b db) (hcc : PD X B H0 c dc)
    (hw : swappedStores [.Tuple [.Name x px, .Name y py, .Name z pz] kt pt] (.Tuple [a, b, c] k2 pt2) X.env = pure (some [x, y, z])) (s1 : starEach [a, b, c] X.env = (false, eval a X.env) :: starEach [b, c] X.env := by rfl) (s2 : starEach [b, c] X.env = (false, eval b X.env) :: starEach [c] X.env := by rfl) (s3 : starEach [c] X.env = (false, eval c X.env) :: starEach [] X.env := by rfl)
    (hs : swapsWithSole [.Tuple [.Name x px, .Name y py, .Name z pz] kt pt] (.Tuple [a, b, c] k2 pt2) pos.line X.env = pure false := by rfl) :
    PDS X B H0 (.Assign [.Tuple [.Name x px, .Name y py, .Name z pz] kt pt] (.Tuple [a, b, c] k2 pt2) pos) (dPar3 i j l da db dc) := PSmono (ps_par3 hc hN hi hj hl hij hil hjl hx hy hz (pa_cons ha (pa_cons hb (pa_cons hcc pa_nil s3) s2) s1) hw hs) fun D σ H ⟨G0, E, ⟨G, S, hs, ho, hd⟩, q1, q2, q3, q4⟩ =>
  ⟨G, S, _, hs, hd, fun v d G1 H1 s r p => ⟨G1, S, _, hs.step s, p, fun v2 d2 G2 H2 s2 r2 p2 => ⟨G2, S, _, hs.step (s.trans s2), p2, fun v3 d3 G3 H3 s3 r3 p3 => by
    refine ⟨v, v2, v3, rfl, q1 _ _ ?_⟩
    split at p3
    · exact ⟨G3, _, (((hs.step (s.trans (s2.trans s3))).set i (Rp.up (s2.trans s3).toOld r) (fun z => z)).set j (Rp.up s3.toOld r2) (fun z => z)).set l r3 (fun z => z), ho.trans (s.trans (s2.trans s3)).toOld, p3⟩
    · exact p3.elim⟩⟩⟩
end
end DL
/- ==== DLi ==== -/
/-! DLi: a law's own head: the bags, the loop over them. -/
namespace DL
open PySem PySem.Spec PyProof.Rows L2 RZ
def C_take : Ct := fun B ds post => ∃ (b : Addr) (many : Int), ds = [.raw (.ref b), .py (.int many)] ∧ bagIn B b ∧ 0 < many ∧ ∀ r : Int, 0 ≤ r → r < many → r ≤ 999 → post (.py (.int r))
theorem tYes_if {σ : L2.St} {H : Hp} {f g : Hp → Prop} (h : f H) : tYes σ H (fun b H3 => if b = true then f H3 else g H3) := by
  show (if true = true then f H else g H)
  rw [if_pos rfl]; exact h
def RawBag (H : Hp) (p : Addr) : Prop := ∃ (dl : Addr) (ns : List Int), H p = some (.lst [.ref dl, .int 0]) ∧ H dl = some (.lst (ns.map V.int)) ∧ ns.length = 400 ∧ ∀ n ∈ ns, 0 ≤ n ∧ n < 1000
theorem RawBag.up {H H' : Hp} {p : Addr} (e : Same H H') (h : RawBag H p) : RawBag H' p := let ⟨dl, ns, a, b, c⟩ := h; ⟨dl, ns, e _ _ a, e _ _ b, c⟩
def spCell (K : Kf) : Sp := fun vs H Q _ => ∃ (a : Addr) (ns : List Int) (k : Int), vs = [.ref a, .int k] ∧ SqL K H a (ns.map V.int) ∧ 0 ≤ k ∧ ∀ z : Int, Q (.int z) H
def spBag (K : Kf) : Sp := fun vs H Q _ => ∃ (a : Addr) (ns : List Int) (k : Int), vs = [.ref a, .int k] ∧ SqL K H a (ns.map V.int) ∧ 0 ≤ k ∧ ∀ (p : Addr) (H' : Hp), Same H H' → H p = none → RawBag H' p → Q (.ref p) H'
def spBags (K : Kf) : Sp := fun vs H Q _ => ∃ (a : Addr) (ns : List Int) (lim : Int), vs = [.ref a, .int lim] ∧ SqL K H a (ns.map V.int) ∧ ns.length ≤ 63 ∧ 0 ≤ lim ∧ lim ≤ 1000 ∧
  ∀ (p : Addr) (bs : List Addr) (H' : Hp), Same H H' → H' p = some (.lst (bs.map V.ref)) → (∀ b ∈ bs, H b = none ∧ b ≠ p ∧ RawBag H' b) → H p = none → Q (.ref p) H'
section
variable {P : Program} {w : World} {K : Kf} {mg : Str → Option Value} {base : Heap}
/-- a def by a promise of its own -/
def CalR (P : Program) (w : World) (K : Kf) (mg : Str → Option Value) (base : Heap) (x : Str) (ps : List Str) (k : Nat) (sp : Sp) : Prop := ∃ (f : Addr) (fd : FuncData), mg x = some (.ref f) ∧ FnOk P w K mg base CX0 k f fd ps sp ∧ PySem.W.keepIn K (.ref f) = true ∧ Binds K fd ps []
end
def spLaw (K : Kf) (T : Addr) : Sp := fun vs H Q _ => ∃ (a : Addr) (ns : List Int), vs = [.ref a] ∧ SqL K H a (ns.map V.int) ∧ ns.length ≤ 63 ∧ H T = some (.tbl #[]) ∧ ∀ H', Q (.bl true) H'
def nones (n : Nat) : Slots := List.replicate n none
theorem nones_get {n i : Nat} {d : D} (h : (nones n)[i]? = some (some d)) : False := by
  unfold nones at h
  rw [List.getElem?_replicate] at h
  split at h <;> cases h
theorem sl_nones {K : Kf} {B : List Addr} {H0 : Hp} {σ : L2.St} {G H : Hp} {n : Nat} (w : Wd K B G H) (hl : σ.length = n) : Sl K B H0 (nones n) σ G H :=
  ⟨w, by unfold nones; rw [List.length_replicate]; exact hl, fun i d h => (nones_get h).elim, fun i j di dj p _ h => (nones_get h).elim⟩
theorem pss_ex {X : Cx} {b : List Stmt} {α : Type} {t : α → TS} (h : ∀ z, PSs X b (t z)) : PSs X b (fun D σ H => ∃ z, t z D σ H) := ⟨fun pins s σ H D I ⟨z, q⟩ => (h z).run pins s σ H D I q⟩
section
variable {P : Program} {w : World} {K : Kf} {mg : Str → Option Value} {base : Heap}
/-- the bags as they come, the table at T ahead of them: what stands without them -/
theorem bags_wd {H1 : Hp} {T : Addr} {bs : List Addr} (h : ∀ b ∈ bs, RawBag H1 b) (hT : H1 T = some (.tbl #[])) (hn : T ∉ bs) : Wd K (T :: bs) (fun a => if a ∈ T :: bs then none else H1 a) H1 := by
  refine ⟨fun a o e => ?_, fun b hb => ⟨if_pos hb, ?_⟩⟩
  · have e : (if a ∈ T :: bs then none else H1 a) = some o := e
    split at e
    · cases e
    · exact e
  · rcases List.mem_cons.mp hb with rfl | hb
    · exact .inr ⟨rfl, #[], hT, trivial, fun pos cv hc => by
        have z : codeAmong pos [] = some cv := hc
        simp [codeAmong] at z⟩
    obtain ⟨dl, ns, k1, k2, k3, k4⟩ := h b hb
    refine .inl ⟨fun z => hn (by cases z; exact hb), dl, 0, ns, k1, Int.le_refl _, ?_, k3, k4⟩
    have nd : dl ∉ T :: bs := fun z => by
      rcases List.mem_cons.mp z with rfl | z
      · rw [k2] at hT; cases hT
      obtain ⟨dl', ns', k1', _⟩ := h dl z
      rw [k2] at k1'
      have e : ns.map V.int = [V.ref dl', V.int 0] := by injection k1' with e; injection e
      have := congrArg List.length e
      rw [List.length_map, k3] at this
      cases this
    show (if dl ∈ T :: bs then none else H1 dl) = _
    rw [if_neg nd]; exact k2
theorem law_ok {sL : Stmt} {N : List Str} {i k : Nat} {lim : Int} {j : Nat} {bd rest : List Stmt} {p1 p2 p3 p4 p5 p6 : Pos} {tb tr : List Addr → DS} {c T : Addr} {f : Addr} {fd : FuncData} (F : FunD K "law" "law" (defArgs sL) (defBody sL) (defScope sL) [] [] f fd) (S : FnScope N ["script"] (defScope sL)) (hcode : ∀ oc od fd' osl, K.lookup f = some ⟨oc, od, .func fd', osl⟩ → fd'.code = .ref c)
    (hbody : defBody sL = .For (.Name "bag" p1) (.Call (.Name "_law_bags" p2) [.Name "script" p3, .Constant (.int lim) j p4] [] p5) bd [] p6 :: rest)
    (hlim : 0 ≤ lim ∧ lim ≤ 1000) (hk : 3 ≤ k) (cb : CalR P w K mg base "_law_bags" ["script", "limit"] 3 (spBags K)) (h0 : N[0]? = some ("script" : Str)) (hi : N[i]? = some ("bag" : Str))
    (vs : (defScope sL).names.lookup ("script" : Str) = some NameKind.local ∨ (defScope sL).names.lookup ("script" : Str) = some NameKind.cell) (vb : (defScope sL).names.lookup ("bag" : Str) = some NameKind.local ∨ (defScope sL).names.lookup ("bag" : Str) = some NameKind.cell) (vg : (defScope sL).names.lookup ("_law_bags" : Str) = some NameKind.globalImplicit)
    (hb : ∀ (f : Addr) (A : Around) (outer : List Env) (s : Shared) (H : Hp) (E : XK) (bs : List Addr) (H0 : Hp), Room k (A.deeper (envOfC "law" (defScope sL) s.heap.objs.size f (.ref c))) → PDSs (cxOf CX0 P w K mg base N "law" (defScope sL) f (.ref c) A outer s H E).nox (T :: bs) H0 bd (tb (T :: bs)))
    (hr : ∀ (f : Addr) (A : Around) (outer : List Env) (s : Shared) (H : Hp) (E : XK) (bs : List Addr) (H0 : Hp), Room k (A.deeper (envOfC "law" (defScope sL) s.heap.objs.size f (.ref c))) → PDSs (cxOf CX0 P w K mg base N "law" (defScope sL) f (.ref c) A outer s H E).nox (T :: bs) H0 rest (tr (T :: bs)))
    (rb : ∀ (bs : List Addr) (b : Addr), bagIn (T :: bs) b → tb (T :: bs) { nx := fun S => S.length = N.length, ct := fun S => S.length = N.length, rt := fun d => d = .py (.bool true) } ((nones N.length).set i (some (.raw (.ref b)))))
    (rr : ∀ bs : List Addr, tr (T :: bs) { nx := fun _ => False, rt := fun d => d = .py (.bool true) } (nones N.length)) :
    FnOk P w K mg base CX0 (k + 1) f fd ["script"] (spLaw K T) := by
  obtain ⟨f1, fd1, hm1, F1, kp1, b1⟩ := cb
  obtain ⟨oc, od, dV, kV, doc, pm, an, cdv, ct, osl, rfl, lk, hcd, _, _⟩ := F.ex
  have ec : cdv = .ref c := hcode _ _ _ _ lk
  subst ec
  refine fn_of lk hcd S (fun vs H Q E h => ?_) (fun A outer s H vs Q E hroom h => ?_)
  · obtain ⟨a, ns, rfl, _⟩ := h; rfl
  · obtain ⟨a, ns, rfl, hS, hl, hT, hq⟩ := h
    have pb : PSs (cxOf CX0 P w K mg base N "law" (defScope sL) f (.ref c) A outer s H E).nox bd (fun D σ H' => ∃ z : List Addr × Hp, lS K (T :: z.1) z.2 (tb (T :: z.1)) D σ H') := pss_ex fun z => hb f A outer s H E z.1 z.2 hroom
    have pr : PSs (cxOf CX0 P w K mg base N "law" (defScope sL) f (.ref c) A outer s H E).nox rest (fun D σ H' => ∃ z : List Addr × Hp, lS K (T :: z.1) z.2 (tr (T :: z.1)) D σ H') := pss_ex fun z => hr f A outer s H E z.1 z.2 hroom
    have pf := ps_for (X := (cxOf CX0 P w K mg base N "law" (defScope sL) f (.ref c) A outer s H E).nox) (pos := p6) PassesOwn.never rfl
      (pi_list (pe_call (pos := p5) (p := p2) F1 (hroom.mono hk) vg hm1 kp1 b1 .nil pass0 (pa_cons (pe_var (i := 0) (pos := p3) h0 (vs.elim Or.inl fun z => Or.inr (Or.inl z))) (pa_cons (pe_int (i := lim) (j := j) (pos := p4)) pa_nil))))
      (pg_name (pos := p1) S.nd hi vb (Or.inl rfl)) pb
    rw [hbody]
    refine ⟨_, PSs.nox (pss_cons pf pr), ?_⟩
    have hN : 0 < N.length := (List.getElem?_eq_some_iff.mp h0).1
    have hst : (L2.start N [V.ref a])[0]? = some (some (V.ref a)) := by unfold L2.start; rfl
    have hsl : (L2.start N [V.ref a]).length = N.length := by unfold L2.start; rw [List.length_append, List.length_map, List.length_replicate]; show 1 + (N.length - 1) = _; omega
    refine ⟨_, hst, a, ns, lim, rfl, hS, hl, hlim.1, hlim.2, fun p bs H1 e1 hp hbs _ => ?_⟩
    have hbag : ∀ b ∈ bs, RawBag H1 b := fun b hb => (hbs b hb).2.2
    have hpb : p ∉ bs := fun z => (hbs p z).2.1 rfl
    have hT1 : H1 T = some (.tbl #[]) := e1 _ _ hT
    have hTn : T ∉ bs := fun z => by rw [(hbs T z).1] at hT; cases hT
    have hTp : p ≠ T := fun z => by subst z; rw [hT1] at hp; cases hp
    have nT : ∀ n, bs[n]? ≠ some T := fun n z => hTn (List.mem_of_getElem? z)
    have w1 := bags_wd (K := K) hbag hT1 hTn
    refine ⟨p, rfl, ⟨_, SqL.of hp⟩, fun n m σ H' => m = (bs.map V.ref).length - n ∧ n ≤ (bs.map V.ref).length ∧ σ.length = N.length ∧ ∃ G, Wd K (T :: bs) G H' ∧ G p = some (.lst (bs.map V.ref)), ⟨_, rfl, Nat.zero_le _, hsl, _, w1, (if_neg (fun z => (List.mem_cons.mp z).elim hTp hpb)).trans hp⟩, ?_⟩
    rintro n m σ H' ⟨rfl, hn, hσ, G, wd, gp⟩
    have hp' : SqL K H' p (bs.map V.ref) := SqL.of (wd.sub _ _ gp)
    by_cases hlt : n < (bs.map V.ref).length
    · have hlt' : n < bs.length := by rw [List.length_map] at hlt; exact hlt
      have hx : (bs.map V.ref)[n]? = some (V.ref bs[n]) := by rw [List.getElem?_map, List.getElem?_eq_getElem hlt']; rfl
      refine .inr ⟨⟨_, _, hp', hx⟩, fun σ' H'' => σ'.length = N.length ∧ ∃ G, Wd K (T :: bs) G H'' ∧ G p = some (.lst (bs.map V.ref)), fun σ' H'' z => ⟨_, by omega, rfl, hlt, z⟩, fun x H'' ⟨ex, ey⟩ => ?_⟩
      subst ex
      have := ey _ hp'; rw [hx] at this; cases this
      have hi2 := (List.getElem?_eq_some_iff.mp hi).1
      have sl := (sl_nones (H0 := H'') (n := N.length) wd hσ).set i (d := .raw (.ref bs[n])) (v := .ref bs[n]) rfl free_raw
      refine ⟨(bs, H''), G, { nx := fun S => S.length = N.length, ct := fun S => S.length = N.length, rt := fun d => d = .py (.bool true) }, ⟨G, _, sl, Old.refl, rb bs bs[n] ⟨List.mem_cons_of_mem _ (List.getElem_mem hlt'), fun z => hTn (by have e := Option.some.inj z; rw [e]; exact List.getElem_mem hlt')⟩⟩, ?_, ?_, fun _ _ ⟨_, _, _, _, z⟩ => z.elim, ?_⟩
      · rintro σ' H3 ⟨G3, S3, k1, k2, k3⟩
        exact ⟨by rw [k1.len]; exact k3, G3, k1.wd, k2.up _ _ gp⟩
      · rintro v H3 ⟨G3, d3, k1, k2, k3, _, rfl⟩
        cases k3; exact hq H3
      · rintro σ' H3 ⟨G3, S3, k1, k2, k3⟩
        exact ⟨by rw [k1.len]; exact k3, G3, k1.wd, k2.up _ _ gp⟩
    · have e : n = (bs.map V.ref).length := by omega
      subst e
      refine .inl ⟨⟨_, hp', Nat.le_refl _⟩, (bs, H'), G, { nx := fun _ => False, rt := fun d => d = .py (.bool true) }, ⟨G, _, sl_nones wd hσ, Old.refl, rr bs⟩, fun _ _ ⟨_, _, _, _, z⟩ => z.elim, ?_, fun _ _ ⟨_, _, _, _, z⟩ => z.elim, fun _ _ ⟨_, _, _, _, z⟩ => z.elim⟩
      rintro v H3 ⟨G3, d3, k1, k2, k3, _, rfl⟩
      cases k3; exact hq H3
theorem law_binds {sL : Stmt} {f : Addr} {fd : FuncData} (F : FunD K "law" "law" (defArgs sL) (defBody sL) (defScope sL) [] [] f fd)
    (hbd : ∀ (dV kV doc pm : Value) (an : Option Addr) (cdv ct : Value) (us : List Value), us.length = (["script"] : List Str).length → bindArgs (PySem.W.fnOf "law" "law" (defArgs sL) (defBody sL) (defScope sL) .none kV doc pm an cdv ct) ⟨us, []⟩ = pure ((["script"] : List Str).zip us)) (s : Shared) (v : Value) : BindsTo s fd ⟨[v], []⟩ [("script", v)] :=
  FunD.bindsA F (fun kV doc pm an cdv ct us hl => hbd .none kV doc pm an cdv ct us hl) s [v] rfl
end
end DL
/- ==== DLj ==== -/
/-! DLj: calls that hand back an object of the caller's own. -/
namespace DL
open PySem PySem.Spec PyProof.Rows L2 RZ
def spDO (K : Kf) (C : Ct) : Sp := fun vs H Q _ => ∃ (B : List Addr) (G : Hp) (ds : List D) (post : D → Prop), Wd K B G H ∧ RpAll K B G H ds vs ∧ C B ds post ∧ ∀ v d G' H', Stp K B G H G' H' → Rp K B G' H' d v → (d.own → ∀ p, v = .ref p → H p = none) → post d → Q v H'
def CalO (P : Program) (w : World) (K : Kf) (mg : Str → Option Value) (base : Heap) (x : Str) (ps : List Str) (k : Nat) (C : Ct) : Prop := ∃ (f : Addr) (fd : FuncData), mg x = some (.ref f) ∧ FnOk P w K mg base CX0 k f fd ps (spDO K C) ∧ PySem.W.keepIn K (.ref f) = true ∧ BindsL K f fd ps
/-- given up -/
def froz : D → D
  | .ol l => .py (.list l)
  | .od k => .dic k
  | d => d
section
variable {P : Program} {w : World} {K : Kf} {mg : Str → Option Value} {base : Heap}
theorem calDO {x : Str} {st : Stmt} {N ps : List Str} {k : Nat} {C : Ct} (d : Def K mg x st) (S : FnScope N ps (defScope st)) (len : ∀ B ds post, C B ds post → ds.length = ps.length ∧ ∀ d ∈ ds, ¬ d.own)
    (hb : ∀ (dV kV doc pm : Value) (an : Option Addr) (cdv ct : Value) (us : List Value), us.length = ps.length → bindArgs (PySem.W.fnOf x x (defArgs st) (defBody st) (defScope st) .none kV doc pm an cdv ct) ⟨us, []⟩ = pure (ps.zip us))
    (hbody : ∀ (f : Addr) (cdv : Value) (A : Around) (outer : List Env) (s : Shared) (H : Hp) (E : XK) (B : List Addr) (ds : List D) (post : D → Prop), Room k (A.deeper (envOfC x (defScope st) s.heap.objs.size f cdv)) → C B ds post →
      ∃ t, PDSs (cxOf CX0 P w K mg base N x (defScope st) f cdv A outer s H E).nox B H (defBody st) t ∧ t { nx := fun _ => post (.py .none), rt := post } (startS N.length ds)) : CalO P w K mg base x ps (k + 1) C := by
  obtain ⟨f, fd, hm, F⟩ := d
  refine ⟨f, fd, hm, F.ok S (fun vs H Q E h => ?_) (fun cdv A outer s H vs Q E hr h => ?_), F.kp, ?_⟩
  · obtain ⟨B, G, ds, post, _, r, c, _⟩ := h
    rw [← r.length]; exact (len B ds post c).1
  · obtain ⟨B, G, ds, post, wd, r, c, hq⟩ := h
    obtain ⟨t, ht, q⟩ := hbody f cdv A outer s H E B ds post hr c
    refine ⟨_, ht.nox, ⟨G, _, ⟨G, _, sl_start wd r (len B ds post c).2, Old.refl, q⟩, fun σ' H' ⟨G', S', h1, h2, h3⟩ => ?_, fun v H' ⟨G', d, h1, h2, h3, h5, h4⟩ => ?_, fun _ _ ⟨_, _, _, _, z⟩ => z, fun _ _ ⟨_, _, _, _, z⟩ => z⟩⟩
    · exact hq .non (.py .none) G' H' ⟨h2, h1.wd⟩ Rp.non (fun z => z.elim) h3
    · exact hq v d G' H' ⟨h2, h1⟩ h3 h5 h4
  · refine BindsL.of F (FunD.bindsN F ?_)
    intro kV doc pm an cdv ct us hl
    exact hb .none kV doc pm an cdv ct us hl
theorem froz_ok {B : List Addr} {G H G' H' : Hp} {d : D} {v : V} (s : Stp K B G H G' H') (r : Rp K B G' H' d v) (h : d.own → ∀ p, v = .ref p → H p = none) : ∃ G'', Stp K B G H G'' H' ∧ Rp K B G'' H' (froz d) v := by
  cases d with
  | ol ds =>
    obtain ⟨p, vs, rfl, w1, w2, w3⟩ := r
    obtain ⟨r1, r2⟩ := release s.wd s.toOld w1.1 w1.2 w2 (h trivial p rfl)
    exact ⟨_, ⟨r2, r1⟩, Rp.ofDt (.lst upd_same (DtAll.up (Same.updN w1.1) w3))⟩
  | od ds =>
    obtain ⟨p, vs, rfl, w1, w2, w3⟩ := r
    obtain ⟨r1, r2⟩ := release s.wd s.toOld w1.1 w1.2 w2 (h trivial p rfl)
    exact ⟨_, ⟨r2, r1⟩, (show Rp K B (upd G' p (.dK vs)) H' (.dic ds) (.ref p) from ⟨p, vs, rfl, upd_same, KvR.up (Same.updN w1.1) w3⟩)⟩
  | py q => exact ⟨G', s, r⟩
  | raw q => exact ⟨G', s, r⟩
  | dic q => exact ⟨G', s, r⟩
  | ins p C q => exact ⟨G', s, r⟩
  | fn L => exact ⟨G', s, r⟩
  | lk L => exact ⟨G', s, r⟩
  | ex a dd fs => exact ⟨G', s, r⟩
theorem Cal.ofO {x : Str} {ps : List Str} {k : Nat} {C : Ct} (c : CalO P w K mg base x ps k C) : Cal P w K mg base x ps k (fun B ds post => C B ds fun d => post (froz d)) :=
  let ⟨f, fd, a, b, c, d⟩ := c
  ⟨f, fd, a, b.imp fun vs H Q E ⟨B, G, ds, post, h1, h2, h3, h4⟩ => ⟨B, G, ds, _, h1, h2, h3, fun v d G' H' s r o p => by
    obtain ⟨G'', s2, r2⟩ := froz_ok s r o
    exact h4 v _ G'' H' s2 r2 p⟩, c, d⟩
theorem CalO.mono {x : Str} {ps : List Str} {j k : Nat} {C : Ct} (c : CalO P w K mg base x ps j C) (h : j ≤ k) : CalO P w K mg base x ps k C :=
  let ⟨f, fd, a, b, c, d⟩ := c; ⟨f, fd, a, b.mono h, c, d⟩
end
def dSetO (i : Nat) (B : List Addr) (C : Ct) (a : DA) : DS := fun E S => a S fun xs => C B xs fun d => E.nx (S.set i (some d))
def dRetO (B : List Addr) (C : Ct) (a : DA) : DS := fun E S => a S fun xs => C B xs fun d => E.rt d
def dRetVO (i : Nat) : DS := fun E S => match S[i]? with
  | some (some d) => E.rt d
  | _ => False
section
variable {X : Cx} {B : List Addr} {H0 : Hp} {e : Expr} {es : List Expr} {ra : DA} {p pos pos' cp : Pos} {x y : Str}
theorem psd_setO {i : Nat} {ps : List Str} {j k : Nat} {C : Ct} (c : CalO X.prog X.w X.K X.mg X.base x ps j C) (hr : Room k X.A) (hN : X.N.Nodup) (hi : X.N[i]? = some y) (hy : Loc X.env.scope y) (ha : PDA X B H0 (e :: es) ra) (hjk : j ≤ k := by decide) (hg : Gl X x := by rfl) (hdb : (x == ("__debug__" : Str)) = false := by decide)
    (he : starEach (e :: es) X.env = (false, eval e X.env) :: starEach es X.env := by rfl) (hpl : (backTo cp (starEach es X.env)).any (·.1) = false := by rfl)
    (hs : swapsWith (.Call (.Name x p) (e :: es) [] cp) (some (.Name y pos')) pos.line X.env = pure false := by rfl) (hf : X.fn y = true ∨ X.env.scope.names.lookup y = some .local := by first | exact .inl rfl | exact .inr rfl | assumption) :
    PDS X B H0 (.Assign [.Name y pos'] (.Call (.Name x p) (e :: es) [] cp) pos) (dSetO i B C ra) := by
  obtain ⟨f, fd, hm, F, kp, b⟩ := c
  refine PSmono (ps_set hN hi hy (pe_call F (hr.mono hjk) hg hm kp b.1 .nil pass0 ha hdb he hpl) hs hf) fun D σ H ⟨G0, E, ⟨G, S, hs, ho, hd⟩, q1, q2, q3, q4⟩ => ?_
  refine ⟨G, S, _, hs, hd, fun vs xs G1 H1 s1 r1 p1 => ?_⟩
  show spDO X.K C (vs ++ []) H1 _ _
  rw [List.append_nil]
  refine ⟨B, G1, xs, _, s1.wd, r1, p1, fun v d G' H' s2 r2 o2 p2 => q1 _ _ ?_⟩
  have s := s1.trans s2
  by_cases od : d.own
  · have : ∃ p, v = .ref p := by cases d with
      | ol _ => obtain ⟨p, _, h, _⟩ := r2; exact ⟨p, h⟩
      | od _ => obtain ⟨p, _, h, _⟩ := r2; exact ⟨p, h⟩
      | _ => exact od.elim
    obtain ⟨p, rfl⟩ := this
    have hp := o2 od p rfl
    refine ⟨G', _, (hs.step s).setOwn i r2 ((ho.trans s1.toOld).dom s1.wd hp) fun j dj hj oj ne e => ?_, ho.trans s.toOld, p2⟩
    obtain ⟨v, h1, h2, _⟩ := (hs.step s1).slot j dj hj
    rw [e] at h1; cases h1
    cases dj with
    | ol ds => obtain ⟨q, vs, e1, _, h3, _⟩ := h2; cases e1; rw [hp] at h3; cases h3
    | od ds => obtain ⟨q, vs, e1, _, h3, _⟩ := h2; cases e1; rw [hp] at h3; cases h3
    | _ => exact oj.elim
  · exact ⟨G', _, (hs.step s).set i r2 od, ho.trans s.toOld, p2⟩
theorem psd_retO {ps : List Str} {j k : Nat} {C : Ct} (c : CalO X.prog X.w X.K X.mg X.base x ps j C) (hr : Room k X.A) (ha : PDA X B H0 (e :: es) ra) (hjk : j ≤ k := by decide) (hg : Gl X x := by rfl) (hdb : (x == ("__debug__" : Str)) = false := by decide)
    (he : starEach (e :: es) X.env = (false, eval e X.env) :: starEach es X.env := by rfl) (hpl : (backTo cp (starEach es X.env)).any (·.1) = false := by rfl) :
    PDS X B H0 (.Return (some (.Call (.Name x p) (e :: es) [] cp)) pos) (dRetO B C ra) := by
  obtain ⟨f, fd, hm, F, kp, b⟩ := c
  refine PSmono (ps_ret (pe_call F (hr.mono hjk) hg hm kp b.1 .nil pass0 ha hdb he hpl)) fun D σ H ⟨G0, E, ⟨G, S, hs, ho, hd⟩, q1, q2, q3, q4⟩ => ?_
  refine ⟨G, S, _, hs, hd, fun vs xs G1 H1 s1 r1 p1 => ?_⟩
  show spDO X.K C (vs ++ []) H1 _ _
  rw [List.append_nil]
  exact ⟨B, G1, xs, _, s1.wd, r1, p1, fun v d G' H' s2 r2 o2 p2 => q2 _ _ ⟨G', d, s2.wd, ho.trans (s1.trans s2).toOld, r2, fun od p e => (ho.trans s1.toOld).dom s1.wd (o2 od p e), p2⟩⟩
theorem psd_retVO (i : Nat) {x : Str} {p : Pos} (hN : X.N[i]? = some x := by rfl) (hv : Vis X.env.scope x := by first | exact Or.inl rfl | exact Or.inr (Or.inl rfl) | exact Or.inr (Or.inr rfl)) (hd : (x == ("__debug__" : Str)) = false := by decide)
    (hcd : (x == ("__classdict__" : Str)) = false := by decide) : PDS X B H0 (.Return (some (.Name x p)) pos) (dRetVO i) := PSmono (ps_ret (pe_var hN hv hd hcd)) fun D σ H ⟨G0, E, ⟨G, S, hs, ho, hd⟩, q1, q2, q3, q4⟩ => by
  unfold dRetVO at hd
  split at hd
  · next d e =>
    obtain ⟨v, h1, h2, h3⟩ := hs.slot i _ e
    exact ⟨v, h1, q2 _ _ ⟨G, _, hs.wd, ho, h2, h3, hd⟩⟩
  · exact hd.elim
end
end DL
/- ==== DLk ==== -/
/-! DLk: cuts. -/
namespace DL
open PySem PySem.Spec PyProof.Rows L2 RZ
variable {α : Type}
theorem take_min (xs : List α) (n : Nat) : xs.take (min n xs.length) = xs.take n := by
  by_cases h : n ≤ xs.length
  · rw [Nat.min_eq_left h]
  · rw [Nat.min_eq_right (by omega), List.take_length, List.take_of_length_le (by omega)]
theorem drop_min (xs : List α) (n : Nat) : xs.drop (min n xs.length) = xs.drop n := by
  by_cases h : n ≤ xs.length
  · rw [Nat.min_eq_left h]
  · rw [Nat.min_eq_right (by omega), List.drop_length, List.drop_of_length_le (by omega)]
theorem cut_to (xs : List α) (n : Nat) : cutG xs none (some (n : Int)) = xs.take n := by
  unfold cutG
  rw [HT.sIx_none, HT.sIx_nat, List.drop_zero, Nat.sub_zero, take_min]
theorem cut_from (xs : List α) (n : Nat) : cutG xs (some (n : Int)) none = xs.drop n := by
  unfold cutG
  rw [HT.sIx_none, HT.sIx_nat, drop_min, List.take_of_length_le]
  rw [List.length_drop]; omega
theorem cut_mid (xs : List α) (a b : Nat) : cutG xs (some (a : Int)) (some (b : Int)) = (xs.drop a).take (b - a) := by
  unfold cutG
  rw [HT.sIx_nat, HT.sIx_nat, drop_min]
  have hd : (xs.drop a).length = xs.length - a := List.length_drop
  by_cases h : b ≤ xs.length
  · by_cases h2 : a ≤ xs.length
    · rw [Nat.min_eq_left h, Nat.min_eq_left h2]
    · rw [List.drop_of_length_le (by omega), List.take_nil, List.take_nil]
  · rw [List.take_of_length_le (by omega), List.take_of_length_le (by omega)]
theorem cut_last (xs : List α) : cutG xs none (some (-1 : Int)) = xs.take (xs.length - 1) := by
  unfold cutG HT.sIx
  show (xs.drop 0).take ((if (-1 : Int) < 0 then ((-1 : Int) + (xs.length : Int)).toNat else min (-1 : Int).toNat xs.length) - 0) = _
  rw [if_pos (by decide), List.drop_zero]
  congr 1; omega
theorem if_ndec {c : Prop} [Decidable c] {A B : Prop} (h1 : ¬ c → A) (h2 : c → B) : if (!decide c) = true then A else B := by
  by_cases h : c
  · rw [if_neg (by simp [h])]; exact h2 h
  · rw [if_pos (by simp [h])]; exact h1 h
theorem if_nb {c : Bool} {A B : Prop} (h1 : c = false → A) (h2 : c = true → B) : if (!c) = true then A else B := by
  cases c with
  | true => rw [if_neg (by decide)]; exact h2 rfl
  | false => exact h1 rfl
theorem all_lc {ds : List PyData} {post : D → Prop} (g : PyData → Bool) (R : PyData → (D → Prop) → Prop) (hl : ds.length ≤ 16000000) (hR : ∀ (i : Nat) (d : PyData), ds[i]? = some d → ∀ p : D → Prop, p (.py (.bool (g d))) → R d p) (hp : post (.py (.bool (ds.all g)))) :
    ∃ Iv : Nat → List PyData → Prop, Iv 0 [] ∧ (∀ (i : Nat) (d : PyData) (acc : List PyData), ds[i]? = some d → Iv i acc → R d (fun y => match y with | .py q => acc.length < 16000000 ∧ Iv (i + 1) (acc ++ [q]) | _ => False)) ∧
      ∀ acc, Iv ds.length acc → ∃ bs : List Bool, some acc = some (bs.map PyData.bool) ∧ post (.py (.bool (bs.all id))) := by
  refine ⟨fun i acc => acc = ((ds.map fun d => PyData.bool (g d))).take i, rfl, ?_, ?_⟩
  · rintro i d acc hi rfl
    have key : (ds.map fun d => PyData.bool (g d))[i]? = some (PyData.bool (g d)) := by rw [List.getElem?_map, hi]; rfl
    refine hR i d hi _ ⟨?_, (take_more key).symm⟩
    rw [List.length_take, List.length_map]
    have := (List.getElem?_eq_some_iff.mp hi).1
    omega
  · rintro acc rfl
    refine ⟨ds.map g, ?_, ?_⟩
    · rw [List.take_of_length_le (by rw [List.length_map]; exact Nat.le_refl _), List.map_map]; rfl
    · rw [List.all_map]; exact hp
/-- a comprehension that computes each element -/
theorem map_lc {ds : List PyData} {post : List PyData → Prop} (g : PyData → PyData) (R : PyData → (D → Prop) → Prop) (hl : ds.length ≤ 16000000) (hR : ∀ (i : Nat) (d : PyData), ds[i]? = some d → ∀ p : D → Prop, p (.py (g d)) → R d p) (hp : post (ds.map g)) :
    ∃ Iv : Nat → List PyData → Prop, Iv 0 [] ∧ (∀ (i : Nat) (d : PyData) (acc : List PyData), ds[i]? = some d → Iv i acc → R d (fun y => match y with | .py q => acc.length < 16000000 ∧ Iv (i + 1) (acc ++ [q]) | _ => False)) ∧
      ∀ acc, Iv ds.length acc → post acc := by
  refine ⟨fun i acc => acc = (ds.map g).take i, rfl, ?_, ?_⟩
  · rintro i d acc hi rfl
    have key : (ds.map g)[i]? = some (g d) := by rw [List.getElem?_map, hi]; rfl
    refine hR i d hi _ ⟨?_, (take_more key).symm⟩
    rw [List.length_take, List.length_map]
    have := (List.getElem?_eq_some_iff.mp hi).1
    omega
  · rintro acc rfl
    rw [List.take_of_length_le (by rw [List.length_map]; exact Nat.le_refl _)]; exact hp
end DL
/- ==== DLl ==== -/
/-! DLl: the keys of a dict, sorted, any number of them; dicts by key. -/
namespace DL
open PySem PySem.Spec PyProof.Rows L2 RZ
def rSortD : List V → Hp → VK → Prop := fun xs H Q => ∃ (a : Addr) (kvs : List (Key × V)) (ks : List Int), xs = [.ref a] ∧ Rd H a (.dK kvs) ∧ kvs.map (·.1) = ks.map Sum.inl ∧ ks.length ≤ sizeLine ∧
    ∀ (ys : List Int) (p : Addr), ys.Perm ks → ys.Pairwise (· ≤ ·) → H p = none → Q (.ref p) (upd H p (.lst (ys.map V.int)))
theorem cr_sortedD {X : Cx} (hcalm : X.calm = true) : CallR X (.builtin "sorted") rSortD := by
  rintro pins s σ H xs us Q I r ⟨a, kvs, ks, rfl, hd, hks, hz, q⟩
  rw [Vals.ref1 r]
  obtain ⟨z, lo, vs, rel, dd⟩ := dk_rd I.hok hd
  obtain ⟨ep, hat⟩ := dd.dictAt
  have hkeys : vs.map (·.1) = ks.map Sum.inl := rel.keys.symm.trans hks
  have hl : vs.length = ks.length := by
    have e := congrArg List.length hkeys
    simpa using e
  refine Calls.call_function_entry PyProof.Rows.kind_sorted PyProof.Rows.plain_sorted PyProof.Rows.entry_sorted (PyProof.Rows.args_sorted1 _) ?_
  unfold Builtin.«sorted»
  refine wpAny_bind (m := checkCount "sorted" 1 1 _) (wpAny_pure ?_)
  refine wpAny_bind (PySem.W.kdu_collect (A := X.A.in1) (PySem.W.kdl_dict (knd := mixKind X.prog X.w) (kvs := vs) (ep := ep) lo) (I.ok.hd hcalm) hat (by rw [hl]; exact hz) fun h' tk acc hk hacc => ?_)
  have hal : acc.toList.length = ks.length := by rw [Array.length_toList, hacc.1, hl]
  have hi : IntsAre acc.toList ks := ints_each hal fun j v e => by
    obtain ⟨k, x, e1, e2⟩ := hacc.2 j v (by rw [← Array.getElem?_toList]; exact e)
    have e3 : (ks.map (Sum.inl : Int → Key))[j]? = some k := by rw [← hkeys, List.getElem?_map, e1]; rfl
    rw [List.getElem?_map] at e3
    cases e4 : ks[j]? with
    | none => rw [e4] at e3; cases e3
    | some y =>
      rw [e4] at e3
      obtain rfl : Sum.inl y = k := Option.some.inj e3
      rcases keyIs_shape (show keyIs (Sum.inl y) v = true from e2) with ⟨i, t, ek, ev⟩ | ⟨z, t, ek, ev⟩
      · cases ek
        exact ⟨y, t, rfl, ev⟩
      · cases ek
  have I1 : Inv X pins σ H { s with heap := h', toks := tk } := I.kept hk
  refine wpAny_bind (wpAny_newList ?_ (by rw [hal]; exact hz))
  have hoL : (h'.push (seqObj "list" acc.toList.toArray 0)).get? h'.objs.size = some (seqObj "list" acc.toList.toArray 0) := Heap.get?_push_size _ rfl
  show wpAny _ _ _ _ _ { s with heap := h'.push (seqObj "list" acc.toList.toArray 0), toks := tk }
  refine wpAny_bind (wpAny_holding (wpAny_call_entry PyProof.Rows.slot_list_sort ⟨_, hoL, rfl⟩ PyProof.Rows.entry_list_sort
    (SrtO.list_sort_ord (s := { s with heap := h'.push (seqObj "list" acc.toList.toArray 0), toks := tk }) SrtO.swo_int hoL (by rw [hal]; exact hz) (fun h2 => SrtO.ints_sortable hi h2) fun out h1 h2 => ⟨_, rfl, ?_⟩) (PyProof.Rows.args_list_sort _)))
  obtain ⟨k1, k2, k3⟩ := SrtO.ints_out hi h1 h2
  obtain ⟨e', he'⟩ := PyProof.Rows.sortedHeap_at (vs := acc.toList) (out := out.toArray) hoL
  have hlen : ((out.map SrtO.iv).map V.int).length ≤ sizeLine := by
    rw [List.length_map, k2.length_eq]; exact hz
  refine wpAny_pure ⟨_, rfl, .ref h'.objs.size, upd H h'.objs.size (.lst ((out.map SrtO.iv).map V.int)), I1.laid (t' := tk) (fun b u e => ?_) (Nat.le_refl _)
    (show ObjOk X.prog X.w _ _ _ (.lst ((out.map SrtO.iv).map V.int)) from ⟨hlen, out, e', vals_of_ints k1, he'⟩), rfl, q _ _ k2 k3 (I1.hok.fresh (Nat.le_refl _))⟩
  have hb : b < h'.objs.size := Heap.lt_size e
  rw [PyProof.Rows.sortedHeap_old (Nat.ne_of_lt hb) (by rw [size_push']; exact Nat.lt_succ_of_lt hb)]
  exact Heap.get?_push_of_some _ e
def intKs (kvs : List (Key × PyData)) (ks : List Int) : Prop := kvs.map (·.1) = ks.map Sum.inl
def cSortD : List D → (D → Prop) → Prop := fun xs post => match xs with
  | [x] => match x.kvs with
    | some kvs => ∃ ks : List Int, intKs kvs ks ∧ ks.length ≤ 16000000 ∧ ∀ ys : List Int, ys.Perm ks → ys.Pairwise (· ≤ ·) → post (.py (.list (ys.map PyData.int)))
    | none => False
  | _ => False
theorem kv_keys {κ : Type} {K : Kf} {G : Hp} {vs : List (κ × V)} {kvs : List (κ × PyData)} (r : KvR K G vs kvs) : vs.map (·.1) = kvs.map (·.1) := by
  unfold KvR at r
  induction r with
  | nil => rfl
  | cons h _ ih => rw [List.map_cons, List.map_cons, ih, h.1]
theorem cd_sortedD {K : Kf} {B : List Addr} : CallD K B rSortD cSortD := fun G H xs dxs post Q w r hf hq => by
  unfold cSortD at hf
  split at hf
  · next x =>
    cases r with
    | cons rx rn =>
      cases rn
      split at hf
      · next kvs e =>
        obtain ⟨ks, h1, h2, hf⟩ := hf
        obtain ⟨p, vs, rfl, g1, g2⟩ := rp_kvs w rx e
        refine ⟨p, vs, ks, rfl, g1, (kv_keys g2).trans h1, by rw [sizeLine_eq]; omega, fun ys p k1 k2 hp => ?_⟩
        exact hq _ _ _ _ (Stp.new w hp _) (Rp.ofDt (Dt.newL (w.sub.free hp) (DtAll.ofInts ys))) (hf ys k1 k2)
      · exact hf.elim
  · exact hf.elim
section
variable {X : Cx} {B : List Addr} {H0 : Hp} {e : Expr} {de : DE} {p pos : Pos}
theorem pd_sortedD (T : Bl X.mg) (hc : X.calm = true) (ha : PD X B H0 e de) (hg : Gl X "sorted" := by rfl) (s2 : starEach [e] X.env = (false, eval e X.env) :: starEach [] X.env := by rfl) (hpl : (backTo pos (starEach [] X.env)).any (·.1) = false := by rfl) : PD X B H0 (.Call (.Name "sorted" p) [e] [] pos) (dCB cSortD (dCons de dNil)) :=
  pd_callB (cr_sortedD hc) cd_sortedD hg T.sorted bo_sorted (pda_cons ha pda_nil s2) (by decide) (by decide) s2 hpl
end
/-! values by key -/
section
variable {κ : Type} [DecidableEq κ]
theorem valD_cons (p : κ × PyData) (l : List (κ × PyData)) (k : κ) : valD (p :: l) k = if p.1 = k then some p.2 else valD l k := by
  unfold valD
  rw [List.find?_cons]
  by_cases h : p.1 = k
  · rw [decide_eq_true h, if_pos h]; rfl
  · rw [decide_eq_false h, if_neg h]
theorem valD_nil (k : κ) : valD ([] : List (κ × PyData)) k = none := rfl
theorem valD_mem (k : κ) : ∀ kvs : List (κ × PyData), (valD kvs k).isSome = true ↔ k ∈ kvs.map (·.1)
  | [] => ⟨fun h => (by cases h), fun h => (by cases h)⟩
  | p :: l => by
    have ih := valD_mem k l
    rw [valD_cons, List.map_cons, List.mem_cons]
    by_cases h : p.1 = k
    · rw [if_pos h]; exact ⟨fun _ => .inl h.symm, fun _ => rfl⟩
    · rw [if_neg h, ih]
      exact ⟨.inr, fun z => z.resolve_left fun e => h e.symm⟩
theorem any_key (k : κ) (kvs : List (κ × PyData)) : (kvs.any fun kv => decide (kv.1 = k)) = true ↔ k ∈ kvs.map (·.1) := by
  rw [List.any_eq_true, List.mem_map]
  exact ⟨fun ⟨x, h1, h2⟩ => ⟨x, h1, of_decide_eq_true h2⟩, fun ⟨x, h1, h2⟩ => ⟨x, h1, decide_eq_true h2⟩⟩
theorem valD_upd (k k' : κ) (v : PyData) : ∀ kvs : List (κ × PyData), k ∈ kvs.map (·.1) → valD (kvs.map (fun kv => if kv.1 = k then (kv.1, v) else kv)) k' = if k' = k then some v else valD kvs k'
  | [], h => by cases h
  | p :: l, h => by
    rw [List.map_cons, valD_cons, valD_cons]
    by_cases hp : p.1 = k
    · rw [if_pos hp]
      by_cases hk : k' = k
      · rw [if_pos hk, if_pos (hp.trans hk.symm)]
      · have n1 : ¬ p.1 = k' := fun e => hk (e.symm.trans hp)
        rw [if_neg hk, if_neg n1, if_neg n1]
        by_cases hl : k ∈ l.map (·.1)
        · rw [valD_upd k k' v l hl, if_neg hk]
        · congr 1
          have : ∀ x ∈ l, (if x.1 = k then (x.1, v) else x) = x := fun x hx => if_neg fun e => hl (List.mem_map.mpr ⟨x, hx, e⟩)
          rw [List.map_congr_left this, List.map_id']
    · rw [if_neg hp]
      have hl : k ∈ l.map (·.1) := by
        rcases List.mem_cons.mp h with e | e
        · exact absurd e.symm hp
        · exact e
      rw [valD_upd k k' v l hl]
      by_cases h1 : p.1 = k'
      · rw [if_pos h1, if_pos h1, if_neg (fun e => hp (h1.trans e))]
      · rw [if_neg h1, if_neg h1]
theorem valD_app (k k' : κ) (v : PyData) : ∀ kvs : List (κ × PyData), k ∉ kvs.map (·.1) → valD (kvs ++ [(k, v)]) k' = if k' = k then some v else valD kvs k'
  | [], _ => by
    rw [List.nil_append, valD_cons]
    by_cases h : k = k'
    · rw [if_pos h, if_pos h.symm]
    · rw [if_neg h, if_neg (fun e => h e.symm)]
  | p :: l, h => by
    rw [List.map_cons, List.mem_cons] at h
    rw [List.cons_append, valD_cons, valD_cons, valD_app k k' v l (fun e => h (.inr e))]
    by_cases h1 : p.1 = k'
    · rw [if_pos h1, if_pos h1, if_neg (fun e => h (.inl (h1.trans e).symm))]
    · rw [if_neg h1, if_neg h1]
theorem valD_putD (kvs : List (κ × PyData)) (k k' : κ) (v : PyData) : valD (putD kvs k v) k' = if k' = k then some v else valD kvs k' := by
  unfold putD
  by_cases h : (kvs.any fun kv => decide (kv.1 = k)) = true
  · rw [if_pos h, valD_upd k k' v kvs ((any_key k kvs).mp h)]
  · rw [if_neg h, valD_app k k' v kvs (fun e => h ((any_key k kvs).mpr e))]
theorem putD_keys (kvs : List (κ × PyData)) (k : κ) (v : PyData) : (putD kvs k v).map (·.1) = if k ∈ kvs.map (·.1) then kvs.map (·.1) else kvs.map (·.1) ++ [k] := by
  unfold putD
  by_cases h : (kvs.any fun kv => decide (kv.1 = k)) = true
  · rw [if_pos h, if_pos ((any_key k kvs).mp h), List.map_map]
    refine List.map_congr_left fun x _ => ?_
    show (if x.1 = k then (x.1, v) else x).1 = x.1
    split <;> rfl
  · rw [if_neg h, if_neg (fun e => h ((any_key k kvs).mpr e)), List.map_append]; rfl
theorem putD_len (kvs : List (κ × PyData)) (k : κ) (v : PyData) : (putD kvs k v).length ≤ kvs.length + 1 := by
  have := congrArg List.length (putD_keys kvs k v)
  rw [List.length_map] at this
  rw [this]
  split
  · rw [List.length_map]; omega
  · rw [List.length_append, List.length_map]; exact Nat.le_refl _
end
theorem lt64 {a b : Nat} (h : a + 64 < b) : a + 1 < b := by omega
end DL
/- ==== DLm ==== -/
/-! DLm: lists and tuples of a range. -/
namespace DL
open PySem PySem.Spec PyProof.Rows L2 RZ
def rgP (a b : Int) : List PyData := (List.range (b - a).toNat).map fun i => PyData.int (a + (i : Nat))
theorem rgP_dt {K : Kf} {G : Hp} (a b : Int) : DtAll K G (rgV a b) (rgP a b) := by
  unfold rgV rgP
  generalize List.range (b - a).toNat = l
  induction l with
  | nil => exact .nil
  | cons x l ih => exact .cons (.int _) ih
def dRg (mk : List PyData → PyData) (a b : DE) : DE := fun S post => a S fun x => b S fun y => match x, y with
  | .py (.int i), .py (.int j) => RgOk i j ∧ post (.py (mk (rgP i j)))
  | _, _ => False
def dZero : DE := fun S post => post (.py (.int 0))
section
variable {X : Cx} {B : List Addr} {H0 : Hp} {a b : Expr} {da db : DE} {p pos rp rpos : Pos}
theorem rg_lift2 {mk : List V → HO} {mkP : List PyData → PyData} (hm : ∀ {G : Hp} {q : Addr} {vs ds}, G q = none → DtAll X.K G vs ds → Dt X.K (upd G q (mk vs)) (.ref q) (mkP ds)) {σ : L2.St} {H : Hp} {Q : VK}
    (h : lE X.K B H0 (dRg mkP da db) σ H Q) : tRg2 (lE X.K B H0 da) (lE X.K B H0 db) σ H fun i j H1 => RgOk i j ∧ ∀ q, H1 q = none → Q (.ref q) (upd H1 q (mk (rgV i j))) := by
  obtain ⟨G, S, post, hs, hd, hq⟩ := h
  refine ⟨G, S, _, hs, hd, fun x dx G1 H1 s1 r1 p1 => ⟨G1, S, _, hs.step s1, p1, fun y dy G2 H2 s2 r2 p2 => ?_⟩⟩
  split at p2
  · next i j =>
    cases r1; cases r2
    exact ⟨_, _, rfl, rfl, p2.1, fun q hq2 => hq _ _ _ _ ((s1.trans s2).trans (Stp.new s2.wd hq2 _)) (Rp.ofDt (hm (s2.wd.sub.free hq2) (rgP_dt _ _))) p2.2⟩
  · exact p2.elim
theorem rg_lift1 {mk : List V → HO} {mkP : List PyData → PyData} (hm : ∀ {G : Hp} {q : Addr} {vs ds}, G q = none → DtAll X.K G vs ds → Dt X.K (upd G q (mk vs)) (.ref q) (mkP ds)) {σ : L2.St} {H : Hp} {Q : VK}
    (h : lE X.K B H0 (dRg mkP dZero db) σ H Q) : tRg1 (lE X.K B H0 db) σ H fun i j H1 => RgOk i j ∧ ∀ q, H1 q = none → Q (.ref q) (upd H1 q (mk (rgV i j))) := by
  obtain ⟨G, S, post, hs, hd, hq⟩ := h
  refine ⟨G, S, _, hs, hd, fun y dy G2 H2 s2 r2 p2 => ?_⟩
  cases dy with
  | py q =>
    cases q with
    | int n =>
      cases r2
      exact ⟨_, rfl, p2.1, fun q hq2 => hq _ _ _ _ (s2.trans (Stp.new s2.wd hq2 _)) (Rp.ofDt (hm (s2.wd.sub.free hq2) (rgP_dt _ _))) p2.2⟩
    | _ => exact p2.elim
  | _ => exact p2.elim
theorem pd_listRg2 (T : Bl X.mg) (hc : X.calm = true) (ha : PD X B H0 a da) (hb : PD X B H0 b db) (hg : Gl X "list" := by rfl) (hgr : Gl X "range" := by rfl) (na : starEach [a, b] X.env = (false, eval a X.env) :: starEach [b] X.env := by rfl)
    (nb : starEach [b] X.env = (false, eval b X.env) :: starEach [] X.env := by rfl) (hp : (backTo rpos (starEach [b] X.env)).any (·.1) = false := by rfl)
    (nr : starEach [.Call (.Name "range" rp) [a, b] [] rpos] X.env = (false, eval (.Call (.Name "range" rp) [a, b] [] rpos) X.env) :: starEach [] X.env := by rfl) : PD X B H0 (.Call (.Name "list" p) [.Call (.Name "range" rp) [a, b] [] rpos] [] pos) (dRg .list da db) :=
  PEmono (pe_listRg hc hg T.list (prg_2 hgr T.range ha hb na nb hp) nr) fun σ H Q h => rg_lift2 (fun h1 h2 => Dt.newL h1 h2) h
theorem pd_tupRg2 (T : Bl X.mg) (hc : X.calm = true) (ha : PD X B H0 a da) (hb : PD X B H0 b db) (hg : Gl X "tuple" := by rfl) (hgr : Gl X "range" := by rfl) (na : starEach [a, b] X.env = (false, eval a X.env) :: starEach [b] X.env := by rfl)
    (nb : starEach [b] X.env = (false, eval b X.env) :: starEach [] X.env := by rfl) (hp : (backTo rpos (starEach [b] X.env)).any (·.1) = false := by rfl)
    (nr : starEach [.Call (.Name "range" rp) [a, b] [] rpos] X.env = (false, eval (.Call (.Name "range" rp) [a, b] [] rpos) X.env) :: starEach [] X.env := by rfl) : PD X B H0 (.Call (.Name "tuple" p) [.Call (.Name "range" rp) [a, b] [] rpos] [] pos) (dRg .tuple da db) :=
  PEmono (pe_tupRg hc hg T.tuple (prg_2 hgr T.range ha hb na nb hp) nr) fun σ H Q h => rg_lift2 (fun h1 h2 => Dt.newT h1 h2) h
theorem pd_listRg1 (T : Bl X.mg) (hc : X.calm = true) (hb : PD X B H0 b db) (hg : Gl X "list" := by rfl) (hgr : Gl X "range" := by rfl) (nb : starEach [b] X.env = (false, eval b X.env) :: starEach [] X.env := by rfl)
    (nr : starEach [.Call (.Name "range" rp) [b] [] rpos] X.env = (false, eval (.Call (.Name "range" rp) [b] [] rpos) X.env) :: starEach [] X.env := by rfl) : PD X B H0 (.Call (.Name "list" p) [.Call (.Name "range" rp) [b] [] rpos] [] pos) (dRg .list dZero db) :=
  PEmono (pe_listRg hc hg T.list (prg_1 hgr T.range hb nb) nr) fun σ H Q h => rg_lift1 (fun h1 h2 => Dt.newL h1 h2) h
end
end DL
/- ==== DLn ==== -/
/-! DLn: readings step by step; data that compares. -/
namespace DL
open PySem PySem.Spec PyProof.Rows L2 RZ
theorem seq_gen {a b : DS} {E : DEnds} {S : Slots} (h : ∀ R : Slots → Prop, R = b E → a { E with nx := R } S) : dSeq a b E S := h _ rfl
theorem seq_back {b : DS} {E : DEnds} {S S' : Slots} {R : Slots → Prop} (hR : R = b E) (e : S = S') (h : b E S') : R S := by subst e; rw [hR]; exact h
theorem for_gen {di : DI} {g : DG} {b : DS} {E : DEnds} {S : Slots} (h : ∀ Bd : DS, Bd = b → dFor di g Bd E S) : dFor di g b E S := h _ rfl
theorem if_gen {c : DT} {a b : DS} {E : DEnds} {S : Slots} (h : ∀ A B : DS, A = a → B = b → dIfS c A B E S) : dIfS c a b E S := h _ _ rfl rfl
theorem body_back {b Bd : DS} {E : DEnds} {S S' : Slots} (hR : Bd = b) (e : S = S') (h : b E S') : Bd E S := by subst e; rw [hR]; exact h
theorem strOk_sub {s : Str} (h : ∀ c ∈ s.cps.toList, c ∈ ("abcdefghijklmnopqrstuvwxyz" : Str).cps.toList) : PyData.strOk s = true := by
  unfold PyData.strOk
  rw [← Array.all_toList, List.all_eq_true]
  have key : ∀ c ∈ ("abcdefghijklmnopqrstuvwxyz" : Str).cps.toList, decide (c < 0x110000) = true := by decide +kernel
  exact fun c hc => key c (h c hc)
/-- data that compares, k levels deep at most -/
def Shp (k : Nat) (d : PyData) : Prop := d.canLay0 = true ∧ d.depth ≤ k
theorem Shp.int {k : Nat} (i : Int) : Shp k (.int i) := ⟨by simp only [PyData.canLay0], by simp only [PyData.depth]; omega⟩
theorem Shp.bool {k : Nat} (i : Bool) : Shp k (.bool i) := ⟨by simp only [PyData.canLay0], by simp only [PyData.depth]; omega⟩
theorem Shp.none {k : Nat} : Shp k .none := ⟨by simp only [PyData.canLay0], by simp only [PyData.depth]; omega⟩
theorem Shp.str {k : Nat} {s : Str} (h : PyData.strOk s = true) : Shp k (.str s) := ⟨by simp only [PyData.canLay0]; exact h, by simp only [PyData.depth]; omega⟩
theorem Shp.all {k : Nat} : ∀ {l : List PyData}, (∀ x ∈ l, Shp k x) → PyData.canLayAll0 l = true ∧ PyData.depthAll l ≤ k
  | [], _ => ⟨by simp only [PyData.canLayAll0], by simp only [PyData.depthAll]; omega⟩
  | x :: l, h => by
    obtain ⟨h1, h2⟩ := Shp.all (l := l) fun y hy => h y (List.mem_cons_of_mem _ hy)
    obtain ⟨k1, k2⟩ := h x (List.mem_cons_self ..)
    exact ⟨by simp only [PyData.canLayAll0, h1, k1, Bool.and_self], by simp only [PyData.depthAll]; omega⟩
theorem Shp.list {k : Nat} {l : List PyData} (h : ∀ x ∈ l, Shp k x) : Shp (k + 1) (.list l) := ⟨by simp only [PyData.canLay0]; exact (Shp.all h).1, by simp only [PyData.depth]; have := (Shp.all h).2; omega⟩
theorem Shp.tuple {k : Nat} {l : List PyData} (h : ∀ x ∈ l, Shp k x) : Shp (k + 1) (.tuple l) := ⟨by simp only [PyData.canLay0]; exact (Shp.all h).1, by simp only [PyData.depth]; have := (Shp.all h).2; omega⟩
theorem Shp.ok {k : Nat} {d : PyData} (h : Shp k d) (hk : k ≤ 64 := by decide) : SeqAt.shaped d = true := by
  unfold SeqAt.shaped
  rw [h.1, decide_eq_true (Nat.le_trans h.2 hk)]; rfl
theorem Shp.strs {k : Nat} {l : List Str} (h : ∀ s ∈ l, PyData.strOk s = true) : Shp (k + 1) (.list (l.map PyData.str)) := .list fun x hx => by
  obtain ⟨s, hs, rfl⟩ := List.mem_map.mp hx
  exact .str (h s hs)
theorem Shp.ints {k : Nat} {l : List Int} : Shp (k + 1) (.list (l.map PyData.int)) := .list fun x hx => by
  obtain ⟨s, hs, rfl⟩ := List.mem_map.mp hx
  exact .int s
theorem Shp.intsT {k : Nat} {l : List Int} : Shp (k + 1) (.tuple (l.map PyData.int)) := .tuple fun x hx => by
  obtain ⟨s, hs, rfl⟩ := List.mem_map.mp hx
  exact .int s
theorem ne_pass {d e : PyData} {A B : Prop} (hs : SeqAt.shaped d = true) (h : e = d) (hB : B) : SeqAt.shaped d = true ∧ SeqAt.shaped e = true ∧ if (!PyData.eqv d e) = true then A else B := by
  subst h
  refine ⟨hs, hs, ?_⟩
  rw [SeqAt.eqv_refl _ (SeqAt.canLay_of_shaped hs)]
  exact hB
/-- d.get(k, z) -/
def getV (kvs : List (Key × PyData)) (k : Key) (z : D) (post : D → Prop) : Prop := match valD kvs k with
  | some q => post (.py q)
  | none => post z
theorem dDget_eq (a b c : DE) : dDget a b c = fun S post => a S fun x => match x.kvs with
    | some kvs => b S fun y => c S fun z => match keyD y with
      | some k => getV kvs k z post
      | none => False
    | none => False := rfl
end DL
/- ==== DLo ==== -/
/-! DLo: the least of a list of pairs (an int and a text). -/
namespace DL
open PySem PySem.Spec PyProof.Rows L2 RZ
/-- comparing items where the heap h0 still stands, but for some places -/
def CmpIn (prog : Program) (w : World) (A : Around) (P : Nat → Value → Prop) (bt : Nat → Nat → Bool) (no : Addr → Prop) (h0 : Heap) : Prop :=
  ∀ i j vi vj (s : Shared) (Q : Value → Shared → Prop) (E : Value → Shared → Prop), (∀ b o, ¬ no b → h0.get? b = some o → s.heap.get? b = some o) → P i vi → P j vj → Q (.bool (bt i j)) s → wpAny (model prog w) A (richCompare .Lt vi vj) Q E s
section
variable {prog : Program} {w : World} {A : Around} {I : Addr} {fp wr : List Addr} {n : Nat} {P : Nat → Value → Prop} {St : Nat → Heap → Prop}
theorem least_turn (W : Walks prog w A.in1 I fp wr n P St) (bt : Nat → Nat → Bool) (S : Addr) (h0 : Heap) (hc : CmpIn prog w A.in1 P bt (fun b => b ∈ wr ∨ b = S) h0) (hSf : S ∉ fp) {R : Result → Shared → Prop} (g : Array GenState) (dr : _) (os : _)
    (hR : ∀ v h' tk, P (argBest bt (n - 1)) v → (∀ b o, ¬ (b ∈ wr ∨ b = S) → h0.get? b = some o → h'.get? b = some o) → R (.ok (.ret v)) ⟨h', g, dr, tk, os⟩) :
    ∀ (k j : Nat) (h1 : Heap) (t1 : Nat) (vb : Value) (c : Nat), n - (j + 1) = k → j + 1 ≤ n → (∀ b o, ¬ (b ∈ wr ∨ b = S) → h0.get? b = some o → h1.get? b = some o) → St (j + 1) h1 → P (argBest bt j) vb →
    h1.get? S = some { cls := .type "list", dict := none, data := .seq #[vb, vb] c, slots := #[] } →
    codeAny (model prog w) A (.builtin "min.loop" ⟨[.ref I, .none, .ref S], []⟩) R ⟨h1, g, dr, t1, os⟩ := by
  have hSw : S ∉ wr := fun z => hSf (W.sub _ z)
  have nm : (toString "min" ++ toString ".loop" : String) = "min.loop" := by decide
  intro k
  induction k with
  | zero =>
    intro j h1 t1 vb c hk hj hx hst hb hS
    have hn : j + 1 = n := by omega
    subst hn
    refine codeAny_builtin F.entry_min_loop ?_
    rw [Around.under_plainId F.plain_min_loop _]
    refine wpAny_bind (wpAny_seqItems (s := ⟨h1, g, dr, t1, os⟩) hS rfl (wpAny_bind (wpAny_tryCatch (W.done ⟨h1, g, dr, t1, os⟩ _ _ hst fun h' tk hk' => ?_))))
    refine wpAny_bind (wpAny_updateSeq (s := ⟨h', g, dr, tk, os⟩) (hk' S _ hSw hS) rfl (wpAny_bind (wpAny_letGo (wpAny_pure ?_))))
    refine hR vb _ tk hb fun b o hn e => ?_
    exact (Heap.get?_update_other _ _ fun z => hn (.inr z.symm)).trans (hk' b o (fun z => hn (.inl z)) (hx b o hn e))
  | succ k ih =>
    intro j h1 t1 vb c hk hj hx hst hb hS
    have hlt : j + 1 < n := by omega
    refine codeAny_builtin F.entry_min_loop ?_
    rw [Around.under_plainId F.plain_min_loop _]
    refine wpAny_bind (wpAny_seqItems (s := ⟨h1, g, dr, t1, os⟩) hS rfl (wpAny_bind (wpAny_tryCatch (W.item (j + 1) ⟨h1, g, dr, t1, os⟩ _ _ hlt hst fun v h' tk hP hst' hk' => ?_))))
    have hS' := hk' S _ hSw hS
    have hx' : ∀ b o, ¬ (b ∈ wr ∨ b = S) → h0.get? b = some o → h'.get? b = some o := fun b o hn e => hk' b o (fun z => hn (.inl z)) (hx b o hn e)
    show wpAny _ A.in1 (tryCatch (holding [v, v] (richCompare .Lt v vb >>= _)) _ >>= _) _ _ ⟨h', g, dr, tk, os⟩
    refine wpAny_bind (wpAny_tryCatch (wpAny_holding (wpAny_bind (hc (j + 1) (argBest bt j) v vb ⟨h', g, dr, tk, os⟩ _ _ hx' hP hb ?_))))
    refine wpAny_bind (wpAny_holding (wpAny_truthy_bool (wpAny_bind (wpAny_letGo (wpAny_pure ?_)))))
    cases e1 : bt (j + 1) (argBest bt j) with
    | true =>
      rw [if_pos rfl]
      refine wpAny_bind (wpAny_updateSeq (s := ⟨h', g, dr, tk, os⟩) hS' rfl (wpAny_bind (wpAny_letGo ?_)))
      rw [nm]
      refine wpAny_pure ⟨plainId_quiet F.plain_min_loop _, ih (j + 1) _ tk v _ (by omega) hlt (fun b o hn e => ?_) (W.frame _ _ _ hst' fun b hf o e => ?_) (by simp only [argBest, e1, if_true]; exact hP) (Heap.get?_update_self _ hS' rfl)⟩
      · exact (Heap.get?_update_other _ _ fun z => hn (.inr z.symm)).trans (hx' b o hn e)
      · exact (Heap.get?_update_other _ _ fun z : S = b => hSf (z ▸ hf)).trans e
    | false =>
      rw [if_neg Bool.false_ne_true]
      refine wpAny_bind (wpAny_letGo ?_)
      rw [nm]
      exact wpAny_pure ⟨plainId_quiet F.plain_min_loop _, ih (j + 1) _ tk vb c (by omega) hlt hx' hst' (by simp only [argBest, e1, Bool.false_eq_true, if_false]; exact hb) hS'⟩
theorem least_call {E : Value → Shared → Prop} {s : Shared} {l : Addr} {items : Array Value} {bt : Nat → Nat → Bool} {Q : Value → Shared → Prop} (hh : A.handled = none) (hl : s.heap.IsList l items) (hn : 0 < items.size) (hc : CmpIn prog w A.in1 (fun i v => items[i]? = some v) bt (fun b => s.heap.get? b = none) s.heap)
    (h : ∀ v h' tk, items[argBest bt (items.size - 1)]? = some v → (∀ b o, s.heap.get? b = some o → h'.get? b = some o) → Q v { s with heap := h', toks := tk }) : wpAny (model prog w) A (call (.builtin "min") [.ref l]) Q E s := by
  have nm : (toString "min" ++ toString ".loop" : String) = "min.loop" := by decide
  refine call_function_tree F.kind_min F.plain_min F.entry_min (F.args_min1 _) ?_
  refine wpAny_bind (wpAny_of_eq (show Builtin.Builtins.bindParams "min" ["key", "default"] 0 ⟨[], []⟩ = pure [none, none] from rfl) (wpAny_bind (wpAny_pure ?_)))
  have hlt : l < s.heap.objs.size := by obtain ⟨_, e, _⟩ := hl; exact Heap.lt_size e
  have hne : l ≠ s.heap.objs.size := Nat.ne_of_lt hlt
  have hfp : ∀ b ∈ [s.heap.objs.size, l], b < (s.heap.push { cls := .type "list_iterator", data := .fields #[.ref l, .int 0 0] }).objs.size := fun b hb => by
    rw [Heap.size_push]
    rcases List.mem_cons.mp hb with e | hb
    · rw [e]; exact Nat.lt_succ_self _
    · rw [List.mem_singleton.mp hb]; exact Nat.lt_succ_of_lt hlt
  refine wpAny_bind (wpAny_pyIter_list hl ?_)
  have st : (s.heap.push { cls := .type "list_iterator", data := .fields #[.ref l, .int 0 0] }).IsListIter s.heap.objs.size l 0 ∧ (s.heap.push { cls := .type "list_iterator", data := .fields #[.ref l, .int 0 0] }).IsList l items := ⟨⟨_, Heap.get?_push_size _ rfl, rfl, rfl⟩, hl.push _⟩
  refine wpAny_bind (wpAny_newObj_type ?_)
  rw [nm]
  have W := Walks.list (prog := prog) (w := w) (A := A.in1) hh s.heap.objs.size l hne items
  have hIs : (s.heap.push { cls := .type "list_iterator", data := .fields #[.ref l, .int 0 0] }).objs.size = s.heap.objs.size + 1 := Heap.size_push _ _
  have hSf : (s.heap.push { cls := .type "list_iterator", data := .fields #[.ref l, .int 0 0] }).objs.size ∉ [s.heap.objs.size, l] := fun hm => Nat.lt_irrefl _ (hfp _ hm)
  have hold : ∀ (b : Addr) (o : Obj), s.heap.get? b = some o → ¬ (b ∈ [s.heap.objs.size] ∨ b = (s.heap.push { cls := .type "list_iterator", data := .fields #[.ref l, .int 0 0] }).objs.size) := fun b o e z => by
    have hb := Heap.lt_size e
    rcases z with z | z
    · rw [List.mem_singleton.mp z] at hb; exact Nat.lt_irrefl _ hb
    · rw [z, hIs] at hb; exact absurd hb (Nat.not_lt_of_le (Nat.le_succ _))
  have hc' : CmpIn prog w A.in1 (fun i v => items[i]? = some v) bt (fun b => b ∈ [s.heap.objs.size] ∨ b = (s.heap.push { cls := .type "list_iterator", data := .fields #[.ref l, .int 0 0] }).objs.size) s.heap :=
    fun i j vi vj s1 Q E hk hi hj q => hc i j vi vj s1 Q E (fun b o _ e => hk b o (hold b o e) e) hi hj q
  refine wpAny_pure ⟨plainId_quiet F.plain_min_loop _, ?_⟩
  refine codeAny_builtin F.entry_min_loop ?_
  rw [Around.under_plainId F.plain_min_loop _]
  refine wpAny_bind (wpAny_seqItems (Heap.get?_push_size _ rfl) rfl (wpAny_bind (wpAny_tryCatch (W.item 0 _ _ _ hn (W.frame _ _ _ st fun b _ o e => Heap.get?_push_of_some _ e) fun v h' tk hP hst' hk' => ?_))))
  have hS' := hk' _ _ (fun hm => hSf (W.sub _ hm)) (Heap.get?_push_size _ rfl)
  show wpAny _ A.in1 (updateSeq _ (fun _ => #[v, v]) >>= _) _ _ _
  refine wpAny_bind (wpAny_updateSeq hS' rfl ?_)
  rw [nm]
  refine wpAny_pure ⟨plainId_quiet F.plain_min_loop _, least_turn W bt _ s.heap hc' hSf _ _ _ (fun v2 h2 t2 hv hx => h v2 h2 t2 hv fun b o e => hx b o (hold b o e) e) _ 0 _ tk v _ rfl hn (fun b o hno e => ?_) (W.frame _ _ _ hst' fun b hf o e => ?_) hP (Heap.get?_update_self _ hS' rfl)⟩
  · exact (Heap.get?_update_other _ _ fun z => hno (.inr z.symm)).trans (hk' b o (fun z => hno (.inl z)) (Heap.get?_push_of_some _ (Heap.get?_push_of_some _ e)))
  · exact (Heap.get?_update_other _ _ fun z : (s.heap.push { cls := .type "list_iterator", data := .fields #[.ref l, .int 0 0] }).objs.size = b => hSf (by rw [z]; exact hf)).trans e
end
/-! pairs -/
def pLt (p q : Int × Str) : Bool := if p.1 = q.1 then decide (p.2.cps.toList < q.2.cps.toList) else decide (p.1 < q.1)
theorem cps_inj {a b : Str} (h : a.cps.toList = b.cps.toList) : a = b := by
  cases a with
  | mk x => cases b with
    | mk y => congr 1; exact Array.toList_inj.mp h
theorem pLt_irr (p : Int × Str) : pLt p p = false := by
  unfold pLt
  rw [if_pos rfl]
  exact decide_eq_false (List.lt_irrefl _)
theorem pLt_trans {p q r : Int × Str} (h1 : pLt p q = true) (h2 : pLt q r = true) : pLt p r = true := by
  unfold pLt at *
  by_cases e1 : p.1 = q.1
  · rw [if_pos e1] at h1
    by_cases e2 : q.1 = r.1
    · rw [if_pos e2] at h2
      rw [if_pos (e1.trans e2)]
      exact decide_eq_true (List.lt_trans (of_decide_eq_true h1) (of_decide_eq_true h2))
    · rw [if_neg e2] at h2
      rw [if_neg (by omega)]
      have := of_decide_eq_true h2
      exact decide_eq_true (by omega)
  · rw [if_neg e1] at h1
    have h1 := of_decide_eq_true h1
    by_cases e2 : q.1 = r.1
    · rw [if_neg (by omega)]; exact decide_eq_true (by omega)
    · rw [if_neg e2] at h2
      have h2 := of_decide_eq_true h2
      rw [if_neg (by omega)]; exact decide_eq_true (by omega)
theorem pLt_conn {p q : Int × Str} (h1 : pLt p q = false) (h2 : pLt q p = false) : p = q := by
  unfold pLt at *
  by_cases e1 : p.1 = q.1
  · rw [if_pos e1] at h1
    rw [if_pos e1.symm] at h2
    have k1 := of_decide_eq_false h1
    have k2 := of_decide_eq_false h2
    have := List.le_antisymm (List.not_lt.mp k2) (List.not_lt.mp k1)
    exact Prod.ext e1 (cps_inj this)
  · rw [if_neg e1] at h1
    rw [if_neg (fun z => e1 z.symm)] at h2
    have k1 := of_decide_eq_false h1
    have k2 := of_decide_eq_false h2
    omega
theorem best_least (f : Nat → Int × Str) (bt : Nat → Nat → Bool) (hb : ∀ i j, bt i j = pLt (f i) (f j)) : ∀ k, argBest bt k ≤ k ∧ ∀ i, i ≤ k → pLt (f i) (f (argBest bt k)) = false
  | 0 => ⟨Nat.le_refl _, fun i hi => by
    have : i = 0 := by omega
    subst this; exact pLt_irr _⟩
  | k + 1 => by
    obtain ⟨h1, h2⟩ := best_least f bt hb k
    cases e : bt (k + 1) (argBest bt k) with
    | true =>
      have e1 : argBest bt (k + 1) = k + 1 := by simp only [argBest, e, if_true]
      rw [e1]
      refine ⟨Nat.le_refl _, fun i hi => ?_⟩
      by_cases h : i = k + 1
      · subst h; exact pLt_irr _
      · have h3 := h2 i (by omega)
        cases h4 : pLt (f i) (f (k + 1)) with
        | false => rfl
        | true =>
          rw [hb] at e
          rw [pLt_trans h4 e] at h3; cases h3
    | false =>
      have e1 : argBest bt (k + 1) = argBest bt k := by simp only [argBest, e, Bool.false_eq_true, if_false]
      rw [e1]
      refine ⟨by omega, fun i hi => ?_⟩
      by_cases h : i = k + 1
      · subst h; rw [← hb]; exact e
      · exact h2 i (by omega)
section
variable {X : Cx}
theorem pair_cmp {A : Around} {s : Shared} {t1 t2 : Addr} {i1 i2 : List Value} {p q : Int × Str} (h1 : s.heap.IsTuple t1 i1.toArray) (h2 : s.heap.IsTuple t2 i2.toArray) (r1 : Vals [.int p.1, .str p.2] i1) (r2 : Vals [.int q.1, .str q.2] i2) (hu : A.units < cLine) : Ob.RcOp .Lt A s (.ref t1) (.ref t2) (pLt p q) := by
  obtain ⟨a1, a2, rfl, ra, rb⟩ := r1.two
  obtain ⟨b1, b2, rfl, rc, rd⟩ := r2.two
  obtain ⟨u1, rfl⟩ := ra
  obtain ⟨u2, rfl⟩ := rb
  obtain ⟨u3, rfl⟩ := rc
  obtain ⟨u4, rfl⟩ := rd
  have R := Ob.RcOp.tuples_lt (A := A) (s := s) (e := fun j => if j = 0 then (p.1 == q.1) else (p.2 == q.2)) (r := fun j => if j = 0 then decide (p.1 < q.1) else decide (p.2.cps.toList < q.2.cps.toList)) h1 h2 hu (fun j k1 k2 => by
    have k : j = 0 ∨ j = 1 := by simp at k1; omega
    rcases k with rfl | rfl
    · exact SeqAt.EqAt.int_int _ _ _ _
    · exact SeqAt.EqAt.str_str _ _ _ _) (fun j k1 k2 _ => by
    have k : j = 0 ∨ j = 1 := by simp at k1; omega
    rcases k with rfl | rfl
    · exact Ob.RcOp.lt_int _ _ _ _
    · exact fun prog w E Q h => PyProof.Rows.lt_str (by simpa using h))
  have e : Ob.lexAt (fun j => if j = 0 then (p.1 == q.1) else (p.2 == q.2)) (fun j => if j = 0 then decide (p.1 < q.1) else decide (p.2.cps.toList < q.2.cps.toList)) (decide ([Value.int p.1 u1, Value.str p.2 u2].toArray.size < [Value.int q.1 u3, Value.str q.2 u4].toArray.size)) 0
      (min [Value.int p.1 u1, Value.str p.2 u2].toArray.size [Value.int q.1 u3, Value.str q.2 u4].toArray.size) = pLt p q := by
    show (if (p.1 == q.1) = true then (if (p.2 == q.2) = true then false else decide (p.2.cps.toList < q.2.cps.toList)) else decide (p.1 < q.1)) = pLt p q
    unfold pLt
    by_cases e1 : p.1 = q.1
    · rw [if_pos (beq_iff_eq.mpr e1), if_pos e1]
      by_cases e2 : p.2 = q.2
      · rw [if_pos (beq_iff_eq.mpr e2), e2]; exact (decide_eq_false (List.lt_irrefl _)).symm
      · rw [if_neg (fun z => e2 (beq_iff_eq.mp z))]
    · rw [if_neg (fun z => e1 (beq_iff_eq.mp z)), if_neg e1]
  rw [e] at R
  exact R
def rMinP (K : PySem.W.Frag) : List V → Hp → VK → Prop := fun xs H Q => ∃ (a : Addr) (vs : List V) (ps : List (Int × Str)), xs = [.ref a] ∧ SqL K H a vs ∧ 0 < ps.length ∧ Paired (fun v p => ∃ t, v = .ref t ∧ SqT K H t [.int p.1, .str p.2]) vs ps ∧
  ∀ (k : Nat) (v : V) (p : Int × Str), vs[k]? = some v → ps[k]? = some p → (∀ q ∈ ps, pLt q p = false) → Q v H
theorem paired_get {α β : Type} {R : α → β → Prop} {as : List α} {bs : List β} (h : Paired R as bs) {k : Nat} {a : α} (e : as[k]? = some a) : ∃ b, bs[k]? = some b ∧ R a b := by
  induction h generalizing k with
  | nil => simp at e
  | cons r _ ih =>
    cases k with
    | zero => simp at e; subst e; exact ⟨_, rfl, r⟩
    | succ k => exact ih (by simpa using e)
theorem vals_back : ∀ {xs : List V} {us : List Value} {i : Nat} {u : Value}, Vals xs us → us[i]? = some u → ∃ x, xs[i]? = some x ∧ RelV x u
  | _, _, i, u, .nil, e => by simp at e
  | _, _, 0, u, .cons r _, e => by simp at e; subst e; exact ⟨_, rfl, r⟩
  | _, _, i + 1, u, .cons _ t, e => by
    obtain ⟨x, h1, h2⟩ := vals_back t (by simpa using e)
    exact ⟨x, by simpa using h1, h2⟩
theorem cr_minP (hc : X.calm = true) (hu : X.A.units + 64 < cLine) : CallR X (.builtin "min") (rMinP X.K) := by
  rintro pins s σ H xs us Q I r ⟨a, vs, ps, rfl, hs, hn, hp, q⟩
  obtain ⟨its, rv, hl, hz⟩ := I.list hs
  rw [Vals.ref1 r]
  have hlen : vs.length = ps.length := Paired.length hp
  have hil : its.length = vs.length := rv.length.symm
  have tup : ∀ (k : Nat) (v : Value), its.toArray[k]? = some v → ∃ (t : Addr) (i1 : List Value), v = .ref t ∧ s.heap.IsTuple t i1.toArray ∧ Vals [.int (ps.getD k (0, Str.empty)).1, .str (ps.getD k (0, Str.empty)).2] i1 := fun k v e => by
    rw [List.getElem?_toArray] at e
    obtain ⟨x, e1, rx⟩ := vals_back rv e
    obtain ⟨p, e2, t, rfl, ht⟩ := paired_get hp e1
    obtain ⟨i1, r1, p1, _⟩ := I.tuple ht
    cases rx
    refine ⟨t, i1, rfl, p1, ?_⟩
    rw [List.getD_eq_getElem?_getD, e2]; exact r1
  refine least_call (bt := fun i j => pLt (ps.getD i (0, Str.empty)) (ps.getD j (0, Str.empty))) (I.ok.hd hc) hl.isList (by rw [List.size_toArray]; omega) (fun i j vi vj s1 Q E hk hi hj q => ?_) fun v h' tk hv hk => ?_
  · obtain ⟨t1, i1, rfl, ht1, r1⟩ := tup i vi hi
    obtain ⟨t2, i2, rfl, ht2, r2⟩ := tup j vj hj
    have up : ∀ {t : Addr} {its : Array Value}, s.heap.IsTuple t its → s1.heap.IsTuple t its := fun ⟨o, e, z⟩ => ⟨o, hk _ _ (fun z => by have z : s.heap.get? _ = none := z; rw [e] at z; cases z) e, z⟩
    exact pair_cmp (up ht1) (up ht2) r1 r2 (by show X.A.units + 1 < cLine; omega) _ _ _ _ q
  · rw [List.getElem?_toArray] at hv
    obtain ⟨x, e1, rx⟩ := vals_back rv hv
    obtain ⟨p, e2, _⟩ := paired_get hp e1
    refine ⟨x, H, I.kept hk, rx, q _ x p e1 e2 fun z hz => ?_⟩
    obtain ⟨i, hi, rfl⟩ := List.getElem_of_mem hz
    have hsz : its.toArray.size = ps.length := by rw [List.size_toArray, hil, hlen]
    have := (best_least (fun i => ps.getD i (0, Str.empty)) _ (fun i j => rfl) (its.toArray.size - 1)).2 i (by omega)
    rw [List.getD_eq_getElem?_getD, List.getD_eq_getElem?_getD, List.getElem?_eq_getElem hi, e2] at this
    exact this
end

def rowP (p : Int × Str) : PyData := .tuple [.int p.1, .str p.2]
def cMinP : List D → (D → Prop) → Prop := fun xs post => match xs with
  | [x] => ∃ ps : List (Int × Str), x.lsti = some (ps.map rowP) ∧ 0 < ps.length ∧ ∀ p ∈ ps, (∀ q ∈ ps, pLt q p = false) → post (.py (rowP p))
  | _ => False
theorem dt_rows {K : Kf} {G : Hp} : ∀ {vs : List V} {ps : List (Int × Str)}, DtAll K G vs (ps.map rowP) → Paired (fun v p => (∃ t, v = .ref t ∧ SqT K G t [.int p.1, .str p.2]) ∧ Dt K G v (rowP p)) vs ps
  | _, [], h => by cases h; exact .nil
  | _, p :: ps, h => by
    cases h with
    | cons h1 h2 =>
      refine .cons ⟨?_, h1⟩ (dt_rows h2)
      cases h1 with
      | tup k1 k2 =>
        cases k2 with
        | cons a1 a2 =>
          cases a2 with
          | cons b1 b2 =>
            cases b2; cases a1; cases b1
            exact ⟨_, rfl, k1⟩
theorem cd_minP {K : Kf} {B : List Addr} : CallD K B (rMinP K) cMinP := fun G H xs dxs post Q w r hf hq => by
  unfold cMinP at hf
  split at hf
  · cases r with
    | cons rx rn =>
      cases rn
      obtain ⟨ps, e, hn, hf⟩ := hf
      obtain ⟨p, vs, rfl, h1, h2⟩ := rp_lst w rx e
      have k := dt_rows h2
      refine ⟨p, vs, ps, rfl, SqL.of h1, hn, Paired.mapP k fun v q z => ?_, fun i v q e1 e2 e3 => ?_⟩
      · obtain ⟨⟨t, ht, hs⟩, _⟩ := z
        exact ⟨t, ht, SqT.up w.sub hs⟩
      · obtain ⟨q', e4, _, d⟩ := paired_get k e1
        rw [e2] at e4; cases e4
        exact stay w hq d (hf q (List.mem_of_getElem? e2) e3)
  · exact hf.elim
section
variable {X : Cx} {B : List Addr} {H0 : Hp} {e : Expr} {de : DE} {p pos : Pos}
theorem pd_minP (T : Bl X.mg) (hc : X.calm = true) (hu : X.A.units + 64 < cLine) (ha : PD X B H0 e de) (hg : Gl X "min" := by rfl) (s2 : starEach [e] X.env = (false, eval e X.env) :: starEach [] X.env := by rfl) (hpl : (backTo pos (starEach [] X.env)).any (·.1) = false := by rfl) : PD X B H0 (.Call (.Name "min" p) [e] [] pos) (dCB cMinP (dCons de dNil)) :=
  pd_callB (cr_minP hc hu) cd_minP hg T.min bo_min (pda_cons ha pda_nil s2) (by decide) (by decide) s2 hpl
end
end DL
/- ==== DLp ==== -/
/-! DLp: objects that stand still: attributes, methods; a new object by its maker. -/
namespace DL
open PySem PySem.Spec PyProof.Rows L2 RZ
def dFld (C : Addr) (f : Str) (a : DE) : DE := fun S post => a S fun x => match x with
  | .ins _ C' fs => C' = C ∧ match fs.lookup f with
    | some q => post (.py q)
    | none => False
  | _ => False
def dMet (C : Addr) (m : Str) (B : List Addr) (Q : Ct) (o : DE) (a : DA) : DE := fun S post => o S fun x => match x with
  | .ins x C' fs => C' = C ∧ fs.lookup m = none ∧ a S fun xs => Q B (.ins x C' fs :: xs) post
  | _ => False
theorem kv_look {K : Kf} {G : Hp} {f : Str} {q : PyData} : ∀ {vs : List (Str × V)} {fs : List (Str × PyData)}, KvR K G vs fs → fs.lookup f = some q → ∃ v, vs.lookup f = some v ∧ Dt K G v q
  | _, _, .nil, e => by cases e
  | (k, v) :: vs, (k', q') :: fs, .cons h t, e => by
    obtain ⟨rfl, d⟩ := h
    rw [List.lookup_cons] at e ⊢
    split at e
    · next h => cases e; rw [h]; exact ⟨v, rfl, d⟩
    · next h => rw [h]; exact kv_look t e
theorem kv_none {K : Kf} {G : Hp} {f : Str} : ∀ {vs : List (Str × V)} {fs : List (Str × PyData)}, KvR K G vs fs → fs.lookup f = none → vs.lookup f = none
  | _, _, .nil, _ => rfl
  | (k, v) :: vs, (k', q') :: fs, .cons h t, e => by
    obtain ⟨rfl, d⟩ := h
    rw [List.lookup_cons] at e ⊢
    split at e
    · cases e
    · next h => rw [h]; exact kv_none t e
/-- what a maker does with data: the attributes that it leaves -/
abbrev CtI := List PyData → (List (Str × PyData) → Prop) → Prop
def spI (K : Kf) (C : Addr) (Q : CtI) : Sp := fun vs H R _ => ∃ (x dx : Addr) (vs0 : List V) (G : Hp) (ds : List PyData) (post : List (Str × PyData) → Prop), vs = .ref x :: vs0 ∧ Same G H ∧ G x = none ∧ DtAll K G vs0 ds ∧ H x = some (.ins C dx []) ∧ Q ds post ∧
  ∀ (d2 : Addr) (fs : List (Str × V)) (fsD : List (Str × PyData)) (G' H' : Hp), Same G G' → Same G' H' → (∀ a o, H a = some o → a ≠ x → H' a = some o) → (∀ a o, H a = some o → a ≠ x → G' a = G a) → (G' x = none ∨ G' x = some (.ins C d2 fs)) → H' x = some (.ins C d2 fs) → KvR K G' fs fsD → post fsD → R .non H'
def CalI (P : Program) (w : World) (K : Kf) (mg : Str → Option Value) (base : Heap) (C : Addr) (ps : List Str) (k : Nat) (Q : CtI) : Prop := ∃ (f : Addr) (fd : FuncData), Mk K C f ∧ FnOk P w K mg base CX0 k f fd ps (spI K C Q) ∧ Binds K fd ps []
def dMake (C : Addr) (Q : CtI) (a : DA) : DE := fun S post => a S fun xs => match pys xs with
  | some qs => Q qs fun fs => ∀ x : Addr, post (.ins x C fs)
  | none => False
section
variable {X : Cx} {B : List Addr} {H0 : Hp} {o e : Expr} {es : List Expr} {da : DE} {ra : DA} {C g : Addr} {f m : Str} {pos apos p : Pos}
theorem pd_fld (c : Cls X.K C) (n : NoAttr X.K C f) (ho : PD X B H0 o da) (hb : attributeBase o f X.env (eval o X.env) = eval o X.env := by rfl) : PD X B H0 (.Attribute o f pos) (dFld C f da) := PEmono (pe_fld ho hb) fun σ H Q ⟨G, S, post, hs, hd, hq⟩ => by
  refine ⟨G, S, _, hs, hd, fun v d G' H' s r p => ?_⟩
  split at p
  · next C' fs =>
    obtain ⟨rfl, p⟩ := p
    obtain ⟨dx, vs, rfl, h1, h2⟩ := r
    split at p
    · next q e =>
      obtain ⟨v, h3, h4⟩ := kv_look h2 e
      exact ⟨_, _, dx, vs, v, rfl, s.wd.sub _ _ h1, c, n, h3, hq v (.py q) G' H' s h4 p⟩
    · exact p.elim
  · exact p.elim
/-- a method by its promise over data -/
def CalM (P : Program) (w : World) (K : Kf) (mg : Str → Option Value) (base : Heap) (C : Addr) (m : Str) (ps : List Str) (k : Nat) (Q : Ct) : Prop := ∃ (f : Addr) (fd : FuncData), Meth K C m f ∧ FnOk P w K mg base CX0 k f fd ps (spD K Q) ∧ Binds K fd ps []
theorem CalM.mono {P : Program} {w : World} {K : Kf} {mg : Str → Option Value} {base : Heap} {C : Addr} {m : Str} {ps : List Str} {j k : Nat} {Q : Ct} (c : CalM P w K mg base C m ps j Q) (h : j ≤ k) : CalM P w K mg base C m ps k Q :=
  let ⟨f, fd, a, b, d⟩ := c; ⟨f, fd, a, b.mono h, d⟩
/-- a method as it stands -/
def DefM (K : Kf) (C : Addr) (cn m : Str) (st : Stmt) : Prop := ∃ (f : Addr) (fd : FuncData), Meth K C m f ∧ FunD K m (cn ++ "." ++ m) (defArgs st) (defBody st) (defScope st) [] [] f fd
theorem calM {P : Program} {w : World} {K : Kf} {mg : Str → Option Value} {base : Heap} {C : Addr} {cn m : Str} {st : Stmt} {N ps : List Str} {k : Nat} {Q : Ct} (d : DefM K C cn m st) (S : FnScope N ps (defScope st)) (len : ∀ B ds post, Q B ds post → ds.length = ps.length ∧ ∀ d ∈ ds, ¬ d.own)
    (hb : ∀ (dV kV doc pm : Value) (an : Option Addr) (cdv ct : Value) (us : List Value), us.length = ps.length → bindArgs (PySem.W.fnOf m (cn ++ "." ++ m) (defArgs st) (defBody st) (defScope st) .none kV doc pm an cdv ct) ⟨us, []⟩ = pure (ps.zip us))
    (hbody : ∀ (f : Addr) (cdv : Value) (A : Around) (outer : List Env) (s : Shared) (H : Hp) (E : XK) (B : List Addr) (ds : List D) (post : D → Prop), Room k (A.deeper (envOfC (cn ++ "." ++ m) (defScope st) s.heap.objs.size f cdv)) → Q B ds post →
      ∃ t, PDSs (cxOf CX0 P w K mg base N (cn ++ "." ++ m) (defScope st) f cdv A outer s H E).nox B H (defBody st) t ∧ t { nx := fun _ => post (.py .none), rt := post } (startS N.length ds)) : CalM P w K mg base C m ps (k + 1) Q := by
  obtain ⟨f, fd, hm, F⟩ := d
  refine ⟨f, fd, hm, okD F S len (fun cdv A outer s H E B ds post hr c => hbody f cdv A outer s H E B ds post hr c), ?_⟩
  refine FunD.bindsN F ?_
  intro kV doc pm an cdv ct us hl
  exact hb .none kV doc pm an cdv ct us hl
theorem pd_met {ps : List Str} {j k : Nat} {Q : Ct} {pl : Sem Bool} (c : Cls X.K C) (cm : CalM X.prog X.w X.K X.mg X.base C m ps j Q) (hr : Room k X.A) (ho : PD X B H0 o da) (ha : PDA X B H0 (e :: es) ra) (hjk : j ≤ k := by decide)
    (hst : starEach (e :: es) X.env = (false, eval e X.env) :: starEach es X.env := by rfl) (hpl : (backTo pos (starEach es X.env)).any (·.1) = false := by rfl)
    (ht : eval (.Call (.Attribute o m apos) (e :: es) [] pos) X.env = (do
      let ov ← eval o X.env
      standAt apos.atName
      let (f, first) ← holding [ov] (getMethod ov m pl)
      callWith pos f first (backTo pos (starEach (e :: es) X.env)) (backToKw pos (keywordEach [] X.env))) := by rfl) : PD X B H0 (.Call (.Attribute o m apos) (e :: es) [] pos) (dMet C m B Q da ra) := by
  obtain ⟨f, fd, hm, F, b⟩ := cm
  refine PEmono (pe_meth ho c hm F (hr.mono hjk) b .nil pass0 ha hst hpl ht) fun σ H Q ⟨G, S, post, hs, hd, hq⟩ => ?_
  refine ⟨G, S, _, hs, hd, fun v d G1 H1 s1 r1 p1 => ?_⟩
  split at p1
  · next C' fs =>
    obtain ⟨rfl, p0, p1⟩ := p1
    obtain ⟨dx, vs, rfl, h1, h2⟩ := id r1
    refine ⟨_, dx, vs, rfl, s1.wd.sub _ _ h1, ?_, G1, S, _, hs.step s1, p1, fun ws ds G2 H2 s2 r2 p2 => ?_⟩
    · exact kv_none h2 p0
    · show spD X.K _ (_ :: (ws ++ [])) H2 Q _
      rw [List.append_nil]
      exact ⟨B, G2, _, post, s2.wd, .cons (Rp.up s2.toOld r1) r2, p2, fun v d G' H' s3 r3 p3 => hq v d G' H' (s1.trans (s2.trans s3)) r3 p3⟩
  · exact p1.elim
theorem pd_make {ps : List Str} {j k : Nat} {x : Str} {Q : CtI} (cm : CalI X.prog X.w X.K X.mg X.base C ps j Q) (hr : Room k X.A) (hm : X.mg x = some (.ref C)) (ha : PDA X B H0 (e :: es) ra) (hjk : j + 1 ≤ k := by decide) (hg : Gl X x := by rfl) (hdb : (x == ("__debug__" : Str)) = false := by decide)
    (he : starEach (e :: es) X.env = (false, eval e X.env) :: starEach es X.env := by rfl) (hpl : (backTo pos (starEach es X.env)).any (·.1) = false := by rfl) : PD X B H0 (.Call (.Name x p) (e :: es) [] pos) (dMake C Q ra) := by
  obtain ⟨f, fd, M, F, b⟩ := cm
  refine PEmono (pe_make M F (hr.mono hjk) hg hm b .nil pass0 ha hdb he hpl) fun σ H R ⟨G, S, post, hs, hd, hq⟩ => ?_
  refine ⟨G, S, _, hs, hd, fun vs ds G1 H1 s1 r1 p1 a dx ha hdx hne => ?_⟩
  split at p1
  · next qs e =>
    show spI X.K C Q (V.ref a :: (vs ++ [])) _ _ _
    rw [List.append_nil]
    have w1 := s1.wd
    have ga : G1 a = none := w1.sub.free ha
    have h2 : ∀ b o, H1 b = some o → upd (upd H1 dx (.own a)) a (.ins C dx []) b = some o := fun b o e => by
      rw [upd_ne (ne_of_none e ha), upd_ne (ne_of_none e hdx)]; exact e
    refine ⟨a, dx, vs, G1, qs, _, rfl, fun b o e => h2 b o (w1.sub _ _ e), ga, pys_all r1 e, upd_same, p1, fun d2 fs fsD G' H' k1 k2 k3 k4 k8 k5 k6 k7 => ⟨rfl, ?_⟩⟩
    have sg : Same G' (upd G' a (.ins C d2 fs)) := fun b o h => by
      by_cases q : b = a
      · subst q; rw [upd_same]
        rcases k8 with z | z
        · rw [z] at h; cases h
        · rw [z] at h; exact h
      · rw [upd_ne q]; exact h
    refine hq _ (.ins a C fsD) (upd G' a (.ins C d2 fs)) H' (s1.trans ⟨⟨fun b o h => ?_, fun b o h h' hb => ?_⟩, ⟨fun b o h => ?_, fun b hb => ?_⟩⟩) ⟨d2, fs, rfl, upd_same, KvR.up sg k6⟩ (k7 a)
    · rw [upd_ne (ne_of_none h ga)]; exact k1 _ _ h
    · have ne := ne_of_none h ha
      exact ⟨k3 b o (h2 b o h) ne, by rw [upd_ne ne, k4 b o (h2 b o h) ne]; exact h'⟩
    · by_cases q : b = a
      · subst q; rw [upd_same] at h; cases h; exact k5
      · rw [upd_ne q] at h; exact k2 _ _ h
    · obtain ⟨g1, g2⟩ := w1.bags b hb
      obtain ⟨u, hu⟩ := g2.some
      have ne := ne_of_none hu ha
      exact ⟨by rw [upd_ne ne, k4 b u (h2 b u hu) ne]; exact g1, g2.up (k1.trans sg) ((k3 b u (h2 b u hu) ne).trans hu.symm)⟩
  · exact p1.elim
end
end DL
/- ==== PL ==== -/
/-! PL: the presses, in plain words: who comes next, the row of presses, how it comes round. -/
namespace DL
open PySem
abbrev Bg := List (Str × Int)
/-- when one who first comes at f comes at t or later -/
def latr (t f : Int) : Int := if t - f > 0 then t - f else 0
def cand (day t f : Int) : Int := f + (latr t f + day - 1) / day * day
def cands (day t : Int) (bs : Bg) : List (Int × Str) := bs.map fun p => (cand day t p.2, p.1)
def lmin : Int × Str → List (Int × Str) → Int × Str
  | m, [] => m
  | m, q :: l => lmin (if pLt q m = true then q else m) l
theorem lmin_spec : ∀ (l : List (Int × Str)) (m : Int × Str), (lmin m l = m ∨ lmin m l ∈ l) ∧ pLt m (lmin m l) = false ∧ ∀ q ∈ l, pLt q (lmin m l) = false
  | [], m => ⟨.inl rfl, pLt_irr m, fun q h => by cases h⟩
  | q :: l, m => by
    show (lmin (if pLt q m = true then q else m) l = m ∨ lmin (if pLt q m = true then q else m) l ∈ q :: l) ∧ pLt m (lmin (if pLt q m = true then q else m) l) = false ∧ ∀ r ∈ q :: l, pLt r (lmin (if pLt q m = true then q else m) l) = false
    by_cases h : pLt q m = true
    · rw [if_pos h]
      obtain ⟨h1, h2, h3⟩ := lmin_spec l q
      refine ⟨?_, ?_, fun r hr => ?_⟩
      · rcases h1 with e | e
        · exact .inr (by rw [e]; exact List.mem_cons_self ..)
        · exact .inr (List.mem_cons_of_mem _ e)
      · cases e : pLt m (lmin q l) with
        | false => rfl
        | true => rw [pLt_trans h e] at h2; cases h2
      · rcases List.mem_cons.mp hr with e | e
        · rw [e]; exact h2
        · exact h3 r e
    · rw [if_neg h]
      obtain ⟨h1, h2, h3⟩ := lmin_spec l m
      refine ⟨?_, h2, fun r hr => ?_⟩
      · rcases h1 with e | e
        · exact .inl e
        · exact .inr (List.mem_cons_of_mem _ e)
      · rcases List.mem_cons.mp hr with e | e
        · rw [e]
          cases e2 : pLt q (lmin m l) with
          | false => rfl
          | true =>
            by_cases e3 : pLt m q = true
            · rw [pLt_trans e3 e2] at h2; cases h2
            · have := pLt_conn (by simpa using h) (by simpa using e3)
              rw [this] at e2; rw [e2] at h2; exact h2
        · exact h3 r e
def nextOf (day : Int) (bs : Bg) (t : Int) : Int × Str := match cands day t bs with
  | [] => (0, Str.empty)
  | q :: l => lmin q l
theorem next_mem {day : Int} {bs : Bg} (h : bs ≠ []) (t : Int) : nextOf day bs t ∈ cands day t bs ∧ ∀ q ∈ cands day t bs, pLt q (nextOf day bs t) = false := by
  unfold nextOf
  cases e : cands day t bs with
  | nil => cases bs with
    | nil => exact absurd rfl h
    | cons => cases e
  | cons q l =>
    obtain ⟨h1, h2, h3⟩ := lmin_spec l q
    refine ⟨?_, fun r hr => ?_⟩
    · rcases h1 with z | z
      · show lmin q l ∈ q :: l
        rw [z]; exact List.mem_cons_self ..
      · exact List.mem_cons_of_mem _ z
    · rcases List.mem_cons.mp hr with z | z
      · rw [z]; exact h2
      · exact h3 r z
theorem next_uniq {day : Int} {bs : Bg} {t : Int} {v : Int × Str} (h1 : v ∈ cands day t bs) (h2 : ∀ q ∈ cands day t bs, pLt q v = false) : v = nextOf day bs t := by
  have hne : bs ≠ [] := fun e => by subst e; cases h1
  obtain ⟨k1, k2⟩ := next_mem hne t
  exact pLt_conn (k2 v h1) (h2 _ k1)
def vis (day burning : Int) (bs : Bg) : Nat → Int × Str
  | 0 => nextOf day bs 0
  | k + 1 => nextOf day bs ((vis day burning bs k).1 + burning)
/-! candidates -/
section
variable {day t f T : Int}
theorem cand_spec (hd : 1 ≤ day) : t ≤ cand day t f ∧ f ≤ cand day t f ∧ (cand day t f - f) % day = 0 ∧ ∀ T, t ≤ T → f ≤ T → (T - f) % day = 0 → cand day t f ≤ T := by
  unfold cand
  have hl : 0 ≤ latr t f ∧ t - f ≤ latr t f ∧ (latr t f = 0 ∨ latr t f = t - f) := by unfold latr; split <;> omega
  generalize latr t f = x at hl ⊢
  have e := Int.emod_add_mul_ediv (x + day - 1) day
  have e0 := Int.emod_nonneg (x + day - 1) (show day ≠ 0 by omega)
  have e1 := Int.emod_lt_of_pos (x + day - 1) (show 0 < day by omega)
  have hc : (x + day - 1) / day * day = day * ((x + day - 1) / day) := Int.mul_comm _ _
  have hq : 0 ≤ (x + day - 1) / day := Int.ediv_nonneg (by omega) (by omega)
  have hqd := Int.mul_nonneg hq (show 0 ≤ day by omega)
  refine ⟨by omega, by omega, ?_, fun T h1 h2 h3 => ?_⟩
  · rw [show f + (x + day - 1) / day * day - f = (x + day - 1) / day * day by omega, Int.mul_emod_left]
  · have g := Int.emod_add_mul_ediv (T - f) day
    rw [h3, Int.zero_add] at g
    have hx : x ≤ T - f := by omega
    have k : day * ((x + day - 1) / day) < day * ((T - f) / day + 1) := by rw [Int.mul_add, Int.mul_one]; omega
    have := Int.lt_of_mul_lt_mul_left k (by omega)
    have : (x + day - 1) / day ≤ (T - f) / day := by omega
    have := Int.mul_le_mul_of_nonneg_left this (show 0 ≤ day by omega)
    omega
end
/-- one who comes at T -/
def Comes (day : Int) (p : Str × Int) (T : Int) : Prop := p.2 ≤ T ∧ (T - p.2) % day = 0
structure NextIs (day : Int) (bs : Bg) (t : Int) (v : Int × Str) : Prop where
  ge : t ≤ v.1
  who : ∃ p ∈ bs, p.1 = v.2 ∧ Comes day p v.1
  no : ∀ T, t ≤ T → T < v.1 → ∀ p ∈ bs, ¬ Comes day p T
  least : ∀ p ∈ bs, Comes day p v.1 → ¬ p.1.cps.toList < v.2.cps.toList
theorem next_is {day : Int} {bs : Bg} (hd : 1 ≤ day) (h : bs ≠ []) (t : Int) : NextIs day bs t (nextOf day bs t) := by
  obtain ⟨h1, h2⟩ := next_mem h t
  obtain ⟨p, hp, e⟩ := List.mem_map.mp h1
  have cs := fun f => cand_spec (t := t) (f := f) hd
  rw [← e] at h2 ⊢
  have hmin : ∀ q ∈ bs, cand day t p.2 ≤ cand day t q.2 ∧ (cand day t q.2 = cand day t p.2 → ¬ q.1.cps.toList < p.1.cps.toList) := fun q hq => by
    have := h2 (cand day t q.2, q.1) (List.mem_map.mpr ⟨q, hq, rfl⟩)
    unfold pLt at this
    by_cases c : cand day t q.2 = cand day t p.2
    · simp only [c, if_true] at this
      exact ⟨by omega, fun _ => of_decide_eq_false this⟩
    · simp only [c, if_false] at this
      have := of_decide_eq_false this
      exact ⟨by omega, fun z => absurd z c⟩
  refine ⟨(cs p.2).1, ⟨p, hp, rfl, (cs p.2).2.1, (cs p.2).2.2.1⟩, fun T h3 h4 q hq ⟨c1, c2⟩ => ?_, fun q hq ⟨c1, c2⟩ => ?_⟩
  · have := (cs q.2).2.2.2 T h3 c1 c2
    have := (hmin q hq).1
    have h4 : T < cand day t p.2 := h4
    omega
  · have k1 := (cs q.2).2.2.2 (cand day t p.2) (cs p.2).1 c1 c2
    have k2 := (hmin q hq).1
    exact (hmin q hq).2 (by omega)
theorem nextIs_uniq {day : Int} {bs : Bg} {t : Int} {v u : Int × Str} (a : NextIs day bs t v) (b : NextIs day bs t u) : v = u := by
  obtain ⟨p, hp, e1, c1⟩ := a.who
  obtain ⟨q, hq, e2, c2⟩ := b.who
  have n1 : ¬ v.1 < u.1 := fun z => b.no v.1 a.ge z p hp c1
  have n2 : ¬ u.1 < v.1 := fun z => a.no u.1 b.ge z q hq c2
  have e : v.1 = u.1 := by omega
  refine Prod.ext e (cps_inj (List.le_antisymm (List.not_lt.mp ?_) (List.not_lt.mp ?_)))
  · have := a.least q hq (by rw [e]; exact c2)
    rw [e2] at this; exact this
  · have := b.least p hp (by rw [← e]; exact c1)
    rw [e1] at this; exact this
theorem next_eq {day : Int} {bs : Bg} (hd : 1 ≤ day) {t : Int} {v : Int × Str} (a : NextIs day bs t v) : v = nextOf day bs t := by
  obtain ⟨p, hp, _⟩ := a.who
  exact nextIs_uniq a (next_is hd (fun e => by subst e; cases hp) t)
/-- the days move on -/
def shift (k : Int) (v : Int × Str) : Int × Str := (v.1 + k, v.2)
theorem comes_shift {day : Int} {p : Str × Int} {T k : Int} (h : p.2 ≤ T) (h2 : p.2 ≤ T + day * k) : Comes day p (T + day * k) ↔ Comes day p T := by
  unfold Comes
  rw [show T + day * k - p.2 = (T - p.2) + day * k by omega, Int.add_mul_emod_self_left]
  exact ⟨fun z => ⟨h, z.2⟩, fun z => ⟨h2, z.2⟩⟩
theorem next_shift {day : Int} {bs : Bg} (hd : 1 ≤ day) (hne : bs ≠ []) {last t k : Int} (hl : ∀ p ∈ bs, p.2 ≤ last) (ht : last ≤ t) (hk : 0 ≤ k) : nextOf day bs (t + day * k) = shift (day * k) (nextOf day bs t) := by
  obtain ⟨g1, ⟨p, hp, e, c⟩, g3, g4⟩ := next_is hd hne t
  have hdk := Int.mul_nonneg (show 0 ≤ day by omega) hk
  refine (next_eq (v := shift (day * k) (nextOf day bs t)) hd ⟨?_, ⟨p, hp, e, ?_⟩, fun T h1 h2 q hq cq => ?_, fun q hq cq => ?_⟩).symm
  · show t + day * k ≤ (nextOf day bs t).1 + day * k; omega
  · show Comes day p ((nextOf day bs t).1 + day * k)
    exact (comes_shift (by have := hl p hp; omega) (by have := hl p hp; omega)).mpr c
  · have h2 : T < (nextOf day bs t).1 + day * k := h2
    have := hl q hq
    refine g3 (T - day * k) (by omega) (by omega) q hq ((comes_shift (k := k) (by omega) (by omega)).mp ?_)
    rw [Int.sub_add_cancel]; exact cq
  · have := hl q hq
    exact g4 q hq ((comes_shift (k := k) (by omega) (by omega)).mp cq)

/-! ### the row of presses -/
section
variable {day burning last : Int} {bs : Bg}
theorem vis_nn (hd : 1 ≤ day) (hb : 1 ≤ burning) (hne : bs ≠ []) : ∀ k : Nat, (k : Int) ≤ (vis day burning bs k).1
  | 0 => (next_is hd hne 0).ge
  | k + 1 => by
    have h1 := vis_nn hd hb hne k
    have h2 := (next_is hd hne ((vis day burning bs k).1 + burning)).ge
    show ((k + 1 : Nat) : Int) ≤ (nextOf day bs ((vis day burning bs k).1 + burning)).1
    omega
theorem vis_step (hd : 1 ≤ day) (hne : bs ≠ []) (k : Nat) : (vis day burning bs k).1 + burning ≤ (vis day burning bs (k + 1)).1 := (next_is hd hne ((vis day burning bs k).1 + burning)).ge
theorem vis_mono (hd : 1 ≤ day) (hb : 1 ≤ burning) (hne : bs ≠ []) {i j : Nat} (h : i < j) : (vis day burning bs i).1 < (vis day burning bs j).1 := by
  induction j with
  | zero => omega
  | succ j ih =>
    have s := vis_step (burning := burning) hd hne j
    by_cases e : i = j
    · subst e; omega
    · have := ih (by omega); omega
theorem vis_le (hd : 1 ≤ day) (hb : 1 ≤ burning) (hne : bs ≠ []) {i j : Nat} (h : i ≤ j) : (vis day burning bs i).1 ≤ (vis day burning bs j).1 := by
  by_cases e : i = j
  · subst e; exact Int.le_refl _
  · exact Int.le_of_lt (vis_mono hd hb hne (by omega))
/-- the first presses, up to where a spot comes again: all that the maker has found -/
structure Found (day burning : Int) (bs : Bg) (last : Int) (i j : Nat) (d : Int) : Prop where
  lt : i < j
  nd : 0 ≤ d
  ge : last ≤ (vis day burning bs i).1
  eq : (vis day burning bs j).1 = (vis day burning bs i).1 + day * d
  ap : ∀ k l, i ≤ k → k < l → l < j → (vis day burning bs k).1 % day ≠ (vis day burning bs l).1 % day
theorem name_of {t t' : Int} (hd : 1 ≤ day) (hne : bs ≠ []) (hl : ∀ p ∈ bs, p.2 ≤ last) {k : Int} (hk : 0 ≤ k) (h : last ≤ (nextOf day bs t).1) (e : (nextOf day bs t').1 = (nextOf day bs t).1 + day * k) : nextOf day bs t' = shift (day * k) (nextOf day bs t) := by
  have a := next_is hd hne t
  have b := next_is hd hne t'
  have hdk := Int.mul_nonneg (show 0 ≤ day by omega) hk
  refine Prod.ext e ?_
  obtain ⟨p, hp, e1, c1⟩ := a.who
  obtain ⟨q, hq, e2, c2⟩ := b.who
  show (nextOf day bs t').2 = (nextOf day bs t).2
  refine cps_inj (List.le_antisymm (List.not_lt.mp ?_) (List.not_lt.mp ?_))
  · have := hl p hp
    have := b.least p hp (by rw [e]; exact (comes_shift (by omega) (by omega)).mpr c1)
    rw [e1] at this; exact this
  · have := hl q hq
    have := a.least q hq ((comes_shift (k := k) (by omega) (by omega)).mp (by rw [← e]; exact c2))
    rw [e2] at this; exact this
theorem vis_form (k : Nat) : ∃ t, vis day burning bs k = nextOf day bs t := by
  cases k with
  | zero => exact ⟨_, rfl⟩
  | succ k => exact ⟨_, rfl⟩
theorem found_shift (hd : 1 ≤ day) (hb : 1 ≤ burning) (hne : bs ≠ []) (hl : ∀ p ∈ bs, p.2 ≤ last) {i j : Nat} {d : Int} (F : Found day burning bs last i j d) : ∀ n : Nat, vis day burning bs (j + n) = shift (day * d) (vis day burning bs (i + n))
  | 0 => by
    obtain ⟨t, ht⟩ := vis_form (day := day) (burning := burning) (bs := bs) i
    obtain ⟨t', ht'⟩ := vis_form (day := day) (burning := burning) (bs := bs) j
    have h1 := F.ge
    have h2 := F.eq
    show vis day burning bs j = shift (day * d) (vis day burning bs i)
    rw [ht] at h1 h2
    rw [ht'] at h2
    rw [ht, ht']
    exact name_of hd hne hl F.nd h1 h2
  | n + 1 => by
    have ih := found_shift hd hb hne hl F n
    show nextOf day bs ((vis day burning bs (j + n)).1 + burning) = shift (day * d) (nextOf day bs ((vis day burning bs (i + n)).1 + burning))
    rw [ih]
    show nextOf day bs ((vis day burning bs (i + n)).1 + day * d + burning) = _
    rw [show (vis day burning bs (i + n)).1 + day * d + burning = ((vis day burning bs (i + n)).1 + burning) + day * d by omega]
    have := vis_le hd hb hne (show i ≤ i + n by omega)
    have := F.ge
    exact next_shift hd hne hl (by omega) F.nd
theorem shift_shift (a b : Int) (v : Int × Str) : shift a (shift b v) = shift (b + a) v := Prod.ext (Int.add_assoc _ _ _) rfl
theorem found_rounds (hd : 1 ≤ day) (hb : 1 ≤ burning) (hne : bs ≠ []) (hl : ∀ p ∈ bs, p.2 ≤ last) {i j : Nat} {d : Int} (F : Found day burning bs last i j d) {k : Nat} (hk : i ≤ k) : ∀ r : Nat, vis day burning bs (k + r * (j - i)) = shift (day * (d * r)) (vis day burning bs k)
  | 0 => by
    rw [Nat.zero_mul, Nat.add_zero]
    exact Prod.ext (by show _ = _ + day * (d * ((0 : Nat) : Int)); simp) rfl
  | r + 1 => by
    have ih := found_rounds hd hb hne hl F hk r
    have := F.lt
    have hrm : (r + 1) * (j - i) = r * (j - i) + (j - i) := Nat.succ_mul _ _
    have e : k + (r + 1) * (j - i) = j + (k + r * (j - i) - i) := by omega
    have e2 : i + (k + r * (j - i) - i) = k + r * (j - i) := by omega
    rw [e, found_shift hd hb hne hl F, e2, ih, shift_shift]
    congr 1
    rw [← Int.mul_add]
    congr 1
    push_cast
    rw [Int.mul_add, Int.mul_one]
end
end DL
/- ==== PM ==== -/
/-! PM: counting presses. -/
namespace DL
open PySem
section
variable {day burning : Int} {bs : Bg}
def Visit (day : Int) (bs : Bg) (T : Int) : Prop := ∃ p ∈ bs, Comes day p T
theorem vis_visit (hd : 1 ≤ day) (hne : bs ≠ []) (k : Nat) : Visit day bs (vis day burning bs k).1 := by
  obtain ⟨t, e⟩ := vis_form (day := day) (burning := burning) (bs := bs) k
  rw [e]
  obtain ⟨p, hp, _, c⟩ := (next_is hd hne t).who
  exact ⟨p, hp, c⟩
theorem next_le (hd : 1 ≤ day) (hne : bs ≠ []) {t T : Int} (h : t ≤ T) (v : Visit day bs T) : (nextOf day bs t).1 ≤ T := by
  obtain ⟨p, hp, c⟩ := v
  have := (next_is hd hne t).no T h
  by_cases z : T < (nextOf day bs t).1
  · exact absurd c (this z p hp)
  · omega
/-- presses come no later than any lot's -/
theorem lot_le (hd : 1 ≤ day) (hne : bs ≠ []) : ∀ (l : List Int) (k0 : Nat), (∀ x ∈ l, Visit day bs x) → l.Pairwise (fun a b => a + burning ≤ b) → (∀ x ∈ l, (vis day burning bs k0).1 ≤ x) → ∀ (i : Nat) (x : Int), l[i]? = some x → (vis day burning bs (k0 + i)).1 ≤ x
  | [], _, _, _, _, i, x, e => by simp at e
  | a :: l, k0, hv, hp, h0, 0, x, e => by
    have e : a = x := Option.some.inj e
    subst e
    exact h0 a (List.mem_cons_self ..)
  | a :: l, k0, hv, hp, h0, i + 1, x, e => by
    rw [List.pairwise_cons] at hp
    have ha := h0 a (List.mem_cons_self ..)
    have ih := lot_le hd hne l (k0 + 1) (fun x hx => hv x (List.mem_cons_of_mem _ hx)) hp.2 (fun x hx => by
      have := hp.1 x hx
      exact next_le hd hne (by omega) (hv x (List.mem_cons_of_mem _ hx))) i x e
    rw [show k0 + (i + 1) = k0 + 1 + i by omega]; exact ih
theorem lot_len (hd : 1 ≤ day) (hne : bs ≠ []) {l : List Int} {t : Int} {m : Nat} (hv : ∀ x ∈ l, Visit day bs x) (hp : l.Pairwise (fun a b => a + burning ≤ b)) (h0 : ∀ x ∈ l, 0 ≤ x ∧ x < t) (hm : t ≤ (vis day burning bs m).1) (hb : 1 ≤ burning) : l.length ≤ m := by
  by_cases h : l.length ≤ m
  · exact h
  · exfalso
    have hlt : m < l.length := by omega
    have := lot_le (burning := burning) hd hne l 0 hv hp (fun x hx => next_le hd hne (h0 x hx).1 (hv x hx)) m l[m] (List.getElem?_eq_getElem hlt)
    rw [Nat.zero_add] at this
    have := (h0 l[m] (List.getElem_mem hlt)).2
    omega
/-- the number of presses ahead of t -/
structure IsN (day burning : Int) (bs : Bg) (t : Int) (m : Nat) : Prop where
  lt : ∀ k, k < m → (vis day burning bs k).1 < t
  ge : t ≤ (vis day burning bs m).1
def ticksTo (day burning : Int) (bs : Bg) (m : Nat) : List Int := (List.range m).map fun k => (vis day burning bs k).1
theorem ticks_lot (hd : 1 ≤ day) (hb : 1 ≤ burning) (hne : bs ≠ []) (m : Nat) : (ticksTo day burning bs m).Pairwise (fun a b => a + burning ≤ b) := by
  unfold ticksTo
  rw [List.pairwise_map]
  refine List.Pairwise.imp_of_mem ?_ (List.pairwise_lt_range (n := m))
  intro a b ha hb2 hab
  have h1 := vis_step (burning := burning) hd hne a
  have h2 := vis_le hd hb hne (burning := burning) (show a + 1 ≤ b by omega)
  omega
theorem ticks_mem {m : Nat} {x : Int} (h : x ∈ ticksTo day burning bs m) : ∃ k, k < m ∧ x = (vis day burning bs k).1 := by
  obtain ⟨k, hk, rfl⟩ := List.mem_map.mp h
  exact ⟨k, List.mem_range.mp hk, rfl⟩
/-- a lot of one is a lot of the other: fewer presses -/
theorem count_le {burning' : Int} {bs' : Bg} (hd : 1 ≤ day) (hb : 1 ≤ burning) (hb' : 1 ≤ burning') (hne : bs ≠ []) (hne' : bs' ≠ []) (hbb : burning ≤ burning') (hsub : ∀ p ∈ bs', p ∈ bs) : ∀ k, (vis day burning bs k).1 ≤ (vis day burning' bs' k).1 := by
  intro k
  have hl := ticks_lot hd hb' hne' (day := day) (bs := bs') (k + 1)
  have := lot_le (burning := burning) hd hne (ticksTo day burning' bs' (k + 1)) 0 (fun x hx => by
      obtain ⟨i, _, rfl⟩ := ticks_mem hx
      obtain ⟨p, hp, c⟩ := vis_visit (burning := burning') hd hne' i
      exact ⟨p, hsub p hp, c⟩) (hl.imp fun {a b} h => by omega) (fun x hx => by
      obtain ⟨i, _, rfl⟩ := ticks_mem hx
      obtain ⟨p, hp, c⟩ := vis_visit (burning := burning') hd hne' i
      have := vis_nn hd hb' hne' (burning := burning') i
      exact next_le hd hne (by omega) ⟨p, hsub p hp, c⟩) k (vis day burning' bs' k).1 (by unfold ticksTo; rw [List.getElem?_map, List.getElem?_range (by omega)]; rfl)
  rw [Nat.zero_add] at this
  exact this
theorem isN_le {burning' : Int} {bs' : Bg} {t : Int} {m m' : Nat} (h : ∀ k, (vis day burning bs k).1 ≤ (vis day burning' bs' k).1) (a : IsN day burning bs t m) (b : IsN day burning' bs' t m') : m' ≤ m := by
  by_cases z : m' ≤ m
  · exact z
  · have := b.lt m (by omega)
    have := h m
    have := a.ge
    omega
theorem inc_len : ∀ (l : List Int) (lo hi : Int), l.Pairwise (· < ·) → (∀ x ∈ l, lo ≤ x ∧ x < hi) → l.length ≤ (hi - lo).toNat
  | [], _, _, _, _ => Nat.zero_le _
  | a :: l, lo, hi, hp, h => by
    rw [List.pairwise_cons] at hp
    have ha := h a (List.mem_cons_self ..)
    have := inc_len l (a + 1) hi hp.2 fun x hx => ⟨by have := hp.1 x hx; omega, (h x (List.mem_cons_of_mem _ hx)).2⟩
    rw [List.length_cons]; omega
theorem filter_split {α : Type} (f : α → Bool) : ∀ l : List α, l.length = (l.filter f).length + (l.filter fun x => !f x).length
  | [] => rfl
  | a :: l => by
    have ih := filter_split f l
    rw [List.filter_cons, List.filter_cons]
    cases f a <;> simp <;> omega
/-- without one of them: no fewer but for that one's own visits -/
theorem count_own {bs' : Bg} {w : Str × Int} {t own : Int} {m m' : Nat} (hd : 1 ≤ day) (hb : 1 ≤ burning) (hne : bs ≠ []) (hne' : bs' ≠ []) (hw : ∀ p ∈ bs, p = w ∨ p ∈ bs') (a : IsN day burning bs t m) (b : IsN day burning bs' t m') (ho : ∀ T, Comes day w T → T < t → (T - w.2) / day < own) (ho0 : 0 ≤ own) : (m : Int) ≤ m' + own := by
  classical
  have hl := ticks_lot hd hb hne (day := day) (burning := burning) (bs := bs) m
  have hlen : (ticksTo day burning bs m).length = m := by unfold ticksTo; rw [List.length_map, List.length_range]
  have hsp := filter_split (fun x => decide (Visit day bs' x)) (ticksTo day burning bs m)
  rw [hlen] at hsp
  have h1 : ((ticksTo day burning bs m).filter fun x => decide (Visit day bs' x)).length ≤ m' := lot_len hd hne' (fun x hx => of_decide_eq_true (List.mem_filter.mp hx).2) (hl.filter _) (fun x hx => by
    obtain ⟨k, hk, rfl⟩ := ticks_mem (List.mem_filter.mp hx).1
    have := vis_nn hd hb hne (burning := burning) k
    exact ⟨by omega, a.lt k hk⟩) b.ge hb
  have h2 : ((ticksTo day burning bs m).filter fun x => !decide (Visit day bs' x)).length ≤ own.toNat := by
    have key : ∀ x ∈ (ticksTo day burning bs m).filter (fun x => !decide (Visit day bs' x)), Comes day w x ∧ x < t := fun x hx => by
      obtain ⟨h3, h4⟩ := List.mem_filter.mp hx
      obtain ⟨k, hk, rfl⟩ := ticks_mem h3
      obtain ⟨p, hp, c⟩ := vis_visit (burning := burning) hd hne k
      refine ⟨?_, a.lt k hk⟩
      rcases hw p hp with e | e
      · rw [← e]; exact c
      · have : decide (Visit day bs' (vis day burning bs k).1) = true := decide_eq_true ⟨p, e, c⟩
        rw [this] at h4; cases h4
    have := inc_len (((ticksTo day burning bs m).filter fun x => !decide (Visit day bs' x)).map fun x => (x - w.2) / day) 0 own ?_ ?_
    · rw [List.length_map, Int.sub_zero] at this; exact this
    · rw [List.pairwise_map]
      refine List.Pairwise.imp_of_mem ?_ (hl.filter _)
      intro x y hx hy hxy
      obtain ⟨⟨c1, c2⟩, _⟩ := key x hx
      obtain ⟨⟨c3, c4⟩, _⟩ := key y hy
      have e1 := Int.emod_add_mul_ediv (x - w.2) day
      have e2 := Int.emod_add_mul_ediv (y - w.2) day
      rw [c2, Int.zero_add] at e1
      rw [c4, Int.zero_add] at e2
      have : day * ((x - w.2) / day) < day * ((y - w.2) / day) := by omega
      exact Int.lt_of_mul_lt_mul_left this (by omega)
    · intro z hz
      obtain ⟨x, hx, rfl⟩ := List.mem_map.mp hz
      obtain ⟨c, hxt⟩ := key x hx
      exact ⟨Int.ediv_nonneg (by have := c.1; omega) (by omega), ho x c hxt⟩
  omega
/-- presses by days -/
structure Per (day burning : Int) (bs : Bg) (q : Nat) (d : Int) (a : Nat) : Prop where
  per : ∀ k, a ≤ k → vis day burning bs (k + q) = shift (day * d) (vis day burning bs k)
theorem Per.many {q a : Nat} {d : Int} (h : Per day burning bs q d a) {k : Nat} (hk : a ≤ k) : ∀ r : Nat, (vis day burning bs (k + r * q)).1 = (vis day burning bs k).1 + day * (d * r)
  | 0 => by simp
  | r + 1 => by
    have ih := h.many hk r
    rw [show k + (r + 1) * q = (k + r * q) + q by rw [Nat.succ_mul]; omega, h.per _ (by omega)]
    show (vis day burning bs (k + r * q)).1 + day * d = _
    rw [ih]
    push_cast
    rw [Int.mul_add, Int.mul_one, Int.mul_add]; omega
theorem per_cmp {burning' : Int} {bs' : Bg} {q q' a a' : Nat} {d d' : Int} (hd : 1 ≤ day) (h : ∀ k, (vis day burning bs k).1 ≤ (vis day burning' bs' k).1) (p : Per day burning bs q d a) (p' : Per day burning' bs' q' d' a') : (q' : Int) * d ≤ q * d' := by
  by_cases z : (q' : Int) * d ≤ q * d'
  · exact z
  · exfalso
    have z : (q : Int) * d' + 1 ≤ q' * d := by omega
    have key : ∀ R : Nat, day * R ≤ (vis day burning' bs' (max a a')).1 - (vis day burning bs (max a a')).1 := fun R => by
      have e1 := p.many (k := max a a') (Nat.le_max_left _ _) (q' * R)
      have e2 := p'.many (k := max a a') (Nat.le_max_right _ _) (q * R)
      have h1 := h (max a a' + q' * R * q)
      rw [e1] at h1
      rw [show q' * R * q = q * R * q' by rw [Nat.mul_assoc, Nat.mul_comm q', Nat.mul_comm R q]] at h1
      rw [e2] at h1
      push_cast at h1
      have m1 : day * ((q : Int) * d' + 1) * R ≤ day * (q' * d) * R := Int.mul_le_mul_of_nonneg_right (Int.mul_le_mul_of_nonneg_left z (by omega)) (by omega)
      have e3 : day * (d * ((q' : Int) * R)) = day * (q' * d) * R := by rw [Int.mul_comm (q' : Int) d, Int.mul_assoc, Int.mul_assoc]
      have e4 : day * (d' * ((q : Int) * R)) = day * (q * d') * R := by rw [Int.mul_comm (q : Int) d', Int.mul_assoc, Int.mul_assoc]
      have e5 : day * ((q : Int) * d' + 1) * R = day * (q * d') * R + day * R := by rw [Int.mul_add, Int.mul_one, Int.add_mul]
      omega
    have k1 := key (((vis day burning' bs' (max a a')).1 - (vis day burning bs (max a a')).1).toNat + 1)
    have k2 : (1 : Int) * ((((vis day burning' bs' (max a a')).1 - (vis day burning bs (max a a')).1).toNat + 1 : Nat) : Int) ≤ day * ((((vis day burning' bs' (max a a')).1 - (vis day burning bs (max a a')).1).toNat + 1 : Nat) : Int) := Int.mul_le_mul_of_nonneg_right hd (by omega)
    omega
end
end DL
/- ==== PN ==== -/
/-! PN: far presses. -/
namespace DL
open PySem
section
variable {day burning : Int} {bs : Bg}
theorem Per.full {q a : Nat} {d : Int} (h : Per day burning bs q d a) {k : Nat} (hk : a ≤ k) : ∀ r : Nat, vis day burning bs (k + r * q) = shift (day * (d * r)) (vis day burning bs k)
  | 0 => by
    rw [Nat.zero_mul, Nat.add_zero]
    exact Prod.ext (by show _ = _ + day * (d * ((0 : Nat) : Int)); simp) rfl
  | r + 1 => by
    have ih := h.full hk r
    rw [show k + (r + 1) * q = (k + r * q) + q by rw [Nat.succ_mul]; omega, h.per _ (by omega), ih, shift_shift]
    congr 1
    push_cast
    rw [Int.mul_add, Int.mul_one, Int.mul_add]
theorem next_ub (hd : 1 ≤ day) (hne : bs ≠ []) {last : Int} (hl : ∀ p ∈ bs, p.2 ≤ last) {t : Int} (ht : last ≤ t) : (nextOf day bs t).1 ≤ t + day := by
  cases bs with
  | nil => exact absurd rfl hne
  | cons p r =>
    have c := cand_spec (t := t) (f := p.2) hd
    have hp := hl p (List.mem_cons_self ..)
    have hle : cand day t p.2 < t + day := by
      by_cases z : cand day t p.2 < t + day
      · exact z
      · exfalso
        have := c.2.2.2 (cand day t p.2 - day) (by omega) (by omega) (by rw [show cand day t p.2 - day - p.2 = (cand day t p.2 - p.2) - day by omega, Int.sub_emod_right]; exact c.2.2.1)
        omega
    have := next_le (bs := p :: r) hd hne c.1 ⟨p, List.mem_cons_self .., c.2.1, c.2.2.1⟩
    omega
theorem next_ub2 (hd : 1 ≤ day) (hne : bs ≠ []) {last : Int} (hl : ∀ p ∈ bs, p.2 ≤ last) (t : Int) : (nextOf day bs t).1 ≤ max t last + day := by
  have h1 := next_ub hd hne hl (t := max t last) (Int.le_max_right _ _)
  have v := (next_is hd hne (max t last)).who
  obtain ⟨p, hp, _, c⟩ := v
  have := next_le hd hne (t := t) (T := (nextOf day bs (max t last)).1) (by have := (next_is hd hne (max t last)).ge; have := Int.le_max_left t last; omega) ⟨p, hp, c⟩
  omega
theorem vis_ub (hd : 1 ≤ day) (hb : 1 ≤ burning) (hne : bs ≠ []) {last : Int} (h0 : 0 ≤ last) (hl : ∀ p ∈ bs, p.2 ≤ last) : ∀ k : Nat, (vis day burning bs k).1 ≤ last + day + k * (burning + day)
  | 0 => by
    have := next_ub2 hd hne hl 0
    rw [Int.max_eq_right h0] at this
    show (nextOf day bs 0).1 ≤ _
    simp only [Int.natCast_zero, Int.zero_mul, Int.add_zero]
    exact this
  | k + 1 => by
    have ih := vis_ub hd hb hne h0 hl k
    have := next_ub2 hd hne hl ((vis day burning bs k).1 + burning)
    show (nextOf day bs ((vis day burning bs k).1 + burning)).1 ≤ _
    push_cast
    rw [Int.add_mul, Int.one_mul]
    have hk : 0 ≤ (k : Int) * (burning + day) := Int.mul_nonneg (by omega) (by omega)
    rcases Int.le_total ((vis day burning bs k).1 + burning) last with z | z
    · rw [Int.max_eq_right z] at this; omega
    · rw [Int.max_eq_left z] at this; omega
/-- presses and days have nothing in common -/
theorem vis_step_mono (hd : 1 ≤ day) (hne : bs ≠ []) {i j : Nat} (h : (vis day burning bs i).1 ≤ (vis day burning bs j).1) : ∀ n : Nat, (vis day burning bs (i + n)).1 ≤ (vis day burning bs (j + n)).1
  | 0 => h
  | n + 1 => by
    have ih := vis_step_mono hd hne h n
    have b := vis_visit (burning := burning) hd hne (j + (n + 1))
    have s := vis_step (burning := burning) hd hne (j + n)
    show (nextOf day bs ((vis day burning bs (i + n)).1 + burning)).1 ≤ _
    exact next_le hd hne (by have : (vis day burning bs (j + n + 1)).1 = (vis day burning bs (j + (n + 1))).1 := rfl; omega) b
theorem next_mono (hd : 1 ≤ day) (hne : bs ≠ []) {t t' : Int} (h : t ≤ t') : (nextOf day bs t).1 ≤ (nextOf day bs t').1 := by
  have n := next_is hd hne t'
  obtain ⟨p, hp, _, c⟩ := n.who
  exact next_le hd hne (by have := n.ge; omega) ⟨p, hp, c⟩
theorem off_le (hd : 1 ≤ day) (hb : 1 ≤ burning) (hne : bs ≠ []) {last e : Int} (hl : ∀ p ∈ bs, p.2 ≤ last) (he : 0 ≤ e) {i j : Nat} (hi : last ≤ (vis day burning bs i).1) (h : (vis day burning bs j).1 ≤ (vis day burning bs i).1 + day * e) : ∀ n : Nat, (vis day burning bs (j + n)).1 ≤ (vis day burning bs (i + n)).1 + day * e
  | 0 => h
  | n + 1 => by
    have ih := off_le hd hb hne hl he hi h n
    have hin := vis_le hd hb hne (burning := burning) (show i ≤ i + n by omega)
    have sh := next_shift hd hne hl (t := (vis day burning bs (i + n)).1 + burning) (by omega) he
    have m := next_mono hd hne (show (vis day burning bs (j + n)).1 + burning ≤ (vis day burning bs (i + n)).1 + burning + day * e by omega)
    rw [sh] at m
    exact m
theorem off_ge (hd : 1 ≤ day) (hb : 1 ≤ burning) (hne : bs ≠ []) {last e : Int} (hl : ∀ p ∈ bs, p.2 ≤ last) (he : 0 ≤ e) {i j : Nat} (hi : last ≤ (vis day burning bs i).1) (h : (vis day burning bs i).1 + day * e ≤ (vis day burning bs j).1) : ∀ n : Nat, (vis day burning bs (i + n)).1 + day * e ≤ (vis day burning bs (j + n)).1
  | 0 => h
  | n + 1 => by
    have ih := off_ge hd hb hne hl he hi h n
    have hin := vis_le hd hb hne (burning := burning) (show i ≤ i + n by omega)
    have sh := next_shift hd hne hl (t := (vis day burning bs (i + n)).1 + burning) (by omega) he
    have m := next_mono hd hne (show (vis day burning bs (i + n)).1 + burning + day * e ≤ (vis day burning bs (j + n)).1 + burning by omega)
    rw [sh] at m
    exact m
theorem found_prime (hd : 1 ≤ day) (hb : 1 ≤ burning) (hne : bs ≠ []) {last : Int} (hl : ∀ p ∈ bs, p.2 ≤ last) {i j : Nat} {d : Int} (F : Found day burning bs last i j d) : Nat.gcd (j - i) d.toNat = 1 := by
  have hlt := F.lt
  have hg : 0 < Nat.gcd (j - i) d.toNat := Nat.gcd_pos_of_pos_left _ (by omega)
  by_cases h1 : Nat.gcd (j - i) d.toNat = 1
  · exact h1
  exfalso
  obtain ⟨q', hq⟩ := Nat.gcd_dvd_left (j - i) d.toNat
  obtain ⟨d', hdd⟩ := Nat.gcd_dvd_right (j - i) d.toNat
  generalize Nat.gcd (j - i) d.toNat = g at hg h1 hq hdd
  have hd0 : d = ((g * d' : Nat) : Int) := by have := F.nd; omega
  have hq0 : 0 < q' := by
    cases q' with
    | zero => omega
    | succ n => omega
  have hqlt : i + q' < j := by
    have : q' * 2 ≤ g * q' := by rw [Nat.mul_comm g]; exact Nat.mul_le_mul_left _ (by omega)
    omega
  have hge := F.ge
  have key : (vis day burning bs (i + q')).1 = (vis day burning bs i).1 + day * d' := by
    have end_ : (vis day burning bs (i + g * q')).1 = (vis day burning bs i).1 + day * ((g * d' : Nat) : Int) := by
      rw [← hq, show i + (j - i) = j by omega, F.eq, hd0]
    rcases Int.le_total (vis day burning bs (i + q')).1 ((vis day burning bs i).1 + day * d') with z | z
    · have all : ∀ r : Nat, (vis day burning bs (i + r * q')).1 + 0 ≤ (vis day burning bs i).1 + day * ((r * d' : Nat) : Int) ∧ (1 ≤ r → (vis day burning bs (i + r * q')).1 ≤ (vis day burning bs (i + q')).1 + day * (((r - 1) * d' : Nat) : Int)) := by
        intro r
        induction r with
        | zero => simp
        | succ r ih =>
          have o := off_le hd hb hne hl (show (0 : Int) ≤ (d' : Int) by omega) hge z (r * q')
          have e1 : i + (r + 1) * q' = i + q' + r * q' := by rw [Nat.succ_mul]; omega
          have e2 : (((r + 1) * d' : Nat) : Int) = ((r * d' : Nat) : Int) + d' := by push_cast; rw [Int.add_mul, Int.one_mul]
          rw [e1, e2, Int.mul_add]
          refine ⟨by omega, fun _ => ?_⟩
          rw [Nat.add_sub_cancel]
          cases r with
          | zero => simp
          | succ r =>
            have o2 := ih.2 (by omega)
            rw [Nat.add_sub_cancel] at o2
            have e3 : (((r + 1) * d' : Nat) : Int) = ((r * d' : Nat) : Int) + d' := by push_cast; rw [Int.add_mul, Int.one_mul]
            rw [e3, Int.mul_add]; omega
      have := (all g).2 hg
      rw [end_] at this
      have e3 : ((g * d' : Nat) : Int) = (((g - 1) * d' : Nat) : Int) + d' := by
        obtain ⟨n, rfl⟩ : ∃ n, g = n + 1 := ⟨g - 1, by omega⟩
        rw [Nat.add_sub_cancel]; push_cast; rw [Int.add_mul, Int.one_mul]
      rw [e3, Int.mul_add] at this
      omega
    · have all : ∀ r : Nat, 1 ≤ r → (vis day burning bs (i + q')).1 + day * (((r - 1) * d' : Nat) : Int) ≤ (vis day burning bs (i + r * q')).1 := by
        intro r
        induction r with
        | zero => intro h; omega
        | succ r ih =>
          intro _
          rw [Nat.add_sub_cancel]
          have o := off_ge hd hb hne hl (show (0 : Int) ≤ (d' : Int) by omega) hge z (r * q')
          have e1 : i + (r + 1) * q' = i + q' + r * q' := by rw [Nat.succ_mul]; omega
          rw [e1]
          cases r with
          | zero => simp
          | succ r =>
            have o2 := ih (by omega)
            rw [Nat.add_sub_cancel] at o2
            have e3 : (((r + 1) * d' : Nat) : Int) = ((r * d' : Nat) : Int) + d' := by push_cast; rw [Int.add_mul, Int.one_mul]
            rw [e3, Int.mul_add]; omega
      have := all g hg
      rw [end_] at this
      have e3 : ((g * d' : Nat) : Int) = (((g - 1) * d' : Nat) : Int) + d' := by
        obtain ⟨n, rfl⟩ : ∃ n, g = n + 1 := ⟨g - 1, by omega⟩
        rw [Nat.add_sub_cancel]; push_cast; rw [Int.add_mul, Int.one_mul]
      rw [e3, Int.mul_add] at this
      omega
  refine F.ap i (i + q') (Nat.le_refl _) (by omega) hqlt ?_
  rw [key, Int.add_mul_emod_self_left]
end
end DL
/- ==== PO ==== -/
/-! PO: the least rounds; houses by so many times greater, houses moved. -/
namespace DL
open PySem
theorem lowest {q q' D D' : Nat} (h : q' * D = q * D') (g : Nat.gcd q D = 1) (g' : Nat.gcd q' D' = 1) (h1 : 1 ≤ q) : q = q' ∧ D = D' := by
  have d1 : q ∣ q' := (Nat.Coprime.dvd_of_dvd_mul_right (show Nat.Coprime q D from g)) ⟨D', by rw [← h]⟩
  have d2 : q' ∣ q := (Nat.Coprime.dvd_of_dvd_mul_right (show Nat.Coprime q' D' from g')) ⟨D, by rw [h]⟩
  have e : q = q' := Nat.dvd_antisymm d1 d2
  subst e
  exact ⟨rfl, Nat.eq_of_mul_eq_mul_left (by omega) h⟩
structure Core (day burning : Int) (bs : Bg) (q : Nat) (D : Nat) (a : Nat) : Prop where
  per : ∀ k, a ≤ k → vis day burning bs (k + q) = shift (day * D) (vis day burning bs k)
  min : a = 0 ∨ vis day burning bs (a - 1 + q) ≠ shift (day * D) (vis day burning bs (a - 1))
  q1 : 1 ≤ q
  gcd : Nat.gcd q D = 1
theorem core_uniq {day burning : Int} {bs : Bg} {q D a q' D' a' : Nat} (hd : 1 ≤ day) (h : Core day burning bs q D a) (h' : Core day burning bs q' D' a') : q = q' ∧ D = D' ∧ a = a' := by
  have c1 := per_cmp hd (fun k => Int.le_refl _) (⟨h.per⟩ : Per day burning bs q D a) ⟨h'.per⟩
  have c2 := per_cmp hd (fun k => Int.le_refl _) (⟨h'.per⟩ : Per day burning bs q' D' a') ⟨h.per⟩
  have eq : q' * D = q * D' := by
    have : (q' : Int) * D = q * D' := by omega
    exact_mod_cast this
  obtain ⟨rfl, rfl⟩ := lowest eq h.gcd h'.gcd h.q1
  refine ⟨rfl, rfl, ?_⟩
  by_cases z : a = a'
  · exact z
  · exfalso
    rcases Nat.lt_or_ge a a' with l | l
    · rcases h'.min with m | m
      · omega
      · exact m (h.per _ (by omega))
    · rcases h.min with m | m
      · omega
      · exact m (h'.per _ (by omega))
/-! ### so many times greater -/
def greatV (by_ : Int) (v : Int × Str) : Int × Str := (by_ * v.1, v.2)
def greatB (by_ : Int) (bs : Bg) : Bg := bs.map fun p => (p.1, by_ * p.2)
section
variable {day burning m : Int} {bs : Bg}
theorem comes_great (hm : 1 ≤ m) {p : Str × Int} {T : Int} : Comes (m * day) (p.1, m * p.2) (m * T) ↔ Comes day p T := by
  unfold Comes
  have e : m * T - m * p.2 = m * (T - p.2) := (Int.mul_sub ..).symm
  show m * p.2 ≤ m * T ∧ (m * T - m * p.2) % (m * day) = 0 ↔ _
  rw [e, Int.mul_emod_mul_of_pos _ _ (by omega)]
  constructor
  · rintro ⟨h1, h2⟩
    refine ⟨Int.le_of_mul_le_mul_left h1 (by omega), ?_⟩
    rcases Int.mul_eq_zero.mp h2 with z | z
    · omega
    · exact z
  · rintro ⟨h1, h2⟩
    exact ⟨Int.mul_le_mul_of_nonneg_left h1 (by omega), by rw [h2, Int.mul_zero]⟩
theorem comes_div (hm : 1 ≤ m) {p : Str × Int} {T : Int} (h : Comes (m * day) (p.1, m * p.2) T) : ∃ T', T = m * T' := by
  have h2 : (T - m * p.2) % (m * day) = 0 := h.2
  have e := Int.emod_add_mul_ediv (T - m * p.2) (m * day)
  rw [h2, Int.zero_add, Int.mul_assoc] at e
  refine ⟨p.2 + day * ((T - m * p.2) / (m * day)), ?_⟩
  rw [Int.mul_add, e]; omega
theorem next_great (hd : 1 ≤ day) (hm : 1 ≤ m) (hne : bs ≠ []) (t : Int) : nextOf (m * day) (greatB m bs) (m * t) = greatV m (nextOf day bs t) := by
  obtain ⟨g1, ⟨p, hp, e, c⟩, g3, g4⟩ := next_is hd hne t
  have hmd : 1 ≤ m * day := by
    have := Int.mul_le_mul hm hd (by decide) (by omega); omega
  have mem : ∀ q ∈ greatB m bs, ∃ p ∈ bs, q = (p.1, m * p.2) := fun q hq => by
    obtain ⟨p, hp, rfl⟩ := List.mem_map.mp hq; exact ⟨p, hp, rfl⟩
  refine (next_eq (v := greatV m (nextOf day bs t)) hmd ⟨Int.mul_le_mul_of_nonneg_left g1 (by omega), ⟨(p.1, m * p.2), List.mem_map.mpr ⟨p, hp, rfl⟩, e, (comes_great hm).mpr c⟩, fun T h1 h2 q hq cq => ?_, fun q hq cq => ?_⟩).symm
  · obtain ⟨r, hr, rfl⟩ := mem q hq
    obtain ⟨T', rfl⟩ := comes_div hm cq
    have h2 : m * T' < m * (nextOf day bs t).1 := h2
    exact g3 T' (Int.le_of_mul_le_mul_left h1 (by omega)) (Int.lt_of_mul_lt_mul_left h2 (by omega)) r hr ((comes_great hm).mp cq)
  · obtain ⟨r, hr, rfl⟩ := mem q hq
    exact g4 r hr ((comes_great hm).mp cq)
theorem vis_great {day burning m : Int} {bs : Bg} (hd : 1 ≤ day) (hm : 1 ≤ m) (hne : bs ≠ []) : ∀ k : Nat, vis (m * day) (m * burning) (greatB m bs) k = greatV m (vis day burning bs k)
  | 0 => by
    have := next_great hd hm hne 0
    rw [Int.mul_zero] at this
    exact this
  | k + 1 => by
    have ih := vis_great (burning := burning) hd hm hne k
    show nextOf (m * day) (greatB m bs) ((vis (m * day) (m * burning) (greatB m bs) k).1 + m * burning) = _
    rw [ih]
    show nextOf (m * day) (greatB m bs) (m * (vis day burning bs k).1 + m * burning) = _
    rw [← Int.mul_add]
    exact next_great hd hm hne _
theorem great_shift {d : Int} {v : Int × Str} : greatV m (shift (day * d) v) = shift (m * day * d) (greatV m v) := by
  refine Prod.ext ?_ rfl
  show m * (v.1 + day * d) = m * v.1 + m * day * d
  rw [Int.mul_add, Int.mul_assoc]
theorem great_inj (hm : 1 ≤ m) {u v : Int × Str} (h : greatV m u = greatV m v) : u = v := by
  have h1 : m * u.1 = m * v.1 := congrArg Prod.fst h
  have h2 : u.2 = v.2 := (Prod.ext_iff.mp h).2
  exact Prod.ext (Int.eq_of_mul_eq_mul_left (by omega) h1) h2
theorem core_great (hd : 1 ≤ day) (hm : 1 ≤ m) (hne : bs ≠ []) {q D a : Nat} (h : Core day burning bs q D a) : Core (m * day) (m * burning) (greatB m bs) q D a := by
  refine ⟨fun k hk => ?_, ?_, h.q1, h.gcd⟩
  · rw [vis_great hd hm hne, vis_great hd hm hne, h.per k hk, great_shift]
  · rcases h.min with z | z
    · exact .inl z
    · refine .inr fun e => z ?_
      rw [vis_great hd hm hne, vis_great hd hm hne, ← great_shift] at e
      exact great_inj hm e
end
/-! ### moved -/
theorem rate_le {day burning burning' : Int} {bs bs' : Bg} {q q' a a' : Nat} {d d' : Int} (hd : 1 ≤ day) {K : Nat} {s : Int} (h : ∀ k, (vis day burning bs k).1 ≤ (vis day burning' bs' (K + k)).1 + s) (p : Per day burning bs q d a) (p' : Per day burning' bs' q' d' a') : (q' : Int) * d ≤ q * d' := by
  by_cases z : (q' : Int) * d ≤ q * d'
  · exact z
  · exfalso
    have z : (q : Int) * d' + 1 ≤ q' * d := by omega
    have key : ∀ R : Nat, day * R ≤ (vis day burning' bs' (K + max a a')).1 + s - (vis day burning bs (max a a')).1 := fun R => by
      have e1 := p.many (k := max a a') (Nat.le_max_left _ _) (q' * R)
      have e2 := p'.many (k := K + max a a') (Nat.le_trans (Nat.le_max_right _ _) (Nat.le_add_left ..)) (q * R)
      have h1 := h (max a a' + q' * R * q)
      rw [e1] at h1
      rw [show q' * R * q = q * R * q' by rw [Nat.mul_assoc, Nat.mul_comm q', Nat.mul_comm R q], ← Nat.add_assoc] at h1
      rw [e2] at h1
      push_cast at h1
      have m1 : day * ((q : Int) * d' + 1) * R ≤ day * (q' * d) * R := Int.mul_le_mul_of_nonneg_right (Int.mul_le_mul_of_nonneg_left z (by omega)) (by omega)
      have e3 : day * (d * ((q' : Int) * R)) = day * (q' * d) * R := by rw [Int.mul_comm (q' : Int) d, Int.mul_assoc, Int.mul_assoc]
      have e4 : day * (d' * ((q : Int) * R)) = day * (q * d') * R := by rw [Int.mul_comm (q : Int) d', Int.mul_assoc, Int.mul_assoc]
      have e5 : day * ((q : Int) * d' + 1) * R = day * (q * d') * R + day * R := by rw [Int.mul_add, Int.mul_one, Int.add_mul]
      omega
    have k1 := key (((vis day burning' bs' (K + max a a')).1 + s - (vis day burning bs (max a a')).1).toNat + 1)
    have k2 : (1 : Int) * ((((vis day burning' bs' (K + max a a')).1 + s - (vis day burning bs (max a a')).1).toNat + 1 : Nat) : Int) ≤ day * ((((vis day burning' bs' (K + max a a')).1 + s - (vis day burning bs (max a a')).1).toNat + 1 : Nat) : Int) := Int.mul_le_mul_of_nonneg_right hd (by omega)
    omega
theorem moved_le {day burning : Int} {bs bs' : Bg} (hd : 1 ≤ day) (hb : 1 ≤ burning) (hne : bs ≠ []) (hne' : bs' ≠ []) {L s : Int} (hv : ∀ T, L ≤ T → Visit day bs T → Visit day bs' (T + s)) : ∃ K : Nat, ∀ k, (vis day burning bs' k).1 ≤ (vis day burning bs (K + k)).1 + s := by
  refine ⟨(max L ((vis day burning bs' 0).1 - s)).toNat, fun k => ?_⟩
  generalize hK : (max L ((vis day burning bs' 0).1 - s)).toNat = K
  have ge : ∀ i : Nat, L ≤ (vis day burning bs (K + i)).1 ∧ (vis day burning bs' 0).1 ≤ (vis day burning bs (K + i)).1 + s := fun i => by
    have := vis_nn hd hb hne (K + i) (burning := burning)
    have h1 := Int.le_max_left L ((vis day burning bs' 0).1 - s)
    have h2 := Int.le_max_right L ((vis day burning bs' 0).1 - s)
    omega
  have := lot_le (burning := burning) hd hne' ((List.range (k + 1)).map fun i => (vis day burning bs (K + i)).1 + s) 0 (fun x hx => by
    obtain ⟨i, _, rfl⟩ := List.mem_map.mp hx
    exact hv _ (ge i).1 (vis_visit hd hne _)) (by
    rw [List.pairwise_map]
    refine List.Pairwise.imp ?_ (List.pairwise_lt_range (n := k + 1))
    intro i j hij
    have h1 := vis_step (burning := burning) hd hne (K + i)
    have h2 := vis_le hd hb hne (burning := burning) (show K + i + 1 ≤ K + j by omega)
    omega) (fun x hx => by
    obtain ⟨i, _, rfl⟩ := List.mem_map.mp hx
    exact (ge i).2) k ((vis day burning bs (K + k)).1 + s) (by rw [List.getElem?_map, List.getElem?_range (by omega)]; rfl)
  rw [Nat.zero_add] at this
  exact this
end DL
/- ==== PQ ==== -/
/-! PQ: rounds found by spots; how long a lamp must burn. -/
namespace DL
open PySem
section
variable {day burning : Int} {bs : Bg} {last : Int}
theorem spot_per (hd : 1 ≤ day) (hb : 1 ≤ burning) (hne : bs ≠ []) (hl : ∀ p ∈ bs, p.2 ≤ last) {i j : Nat} {d : Int} (hij : i ≤ j) (hd0 : 0 ≤ d) (hge : last ≤ (vis day burning bs i).1) (he : (vis day burning bs j).1 = (vis day burning bs i).1 + day * d) : ∀ n : Nat, vis day burning bs (j + n) = shift (day * d) (vis day burning bs (i + n))
  | 0 => by
    obtain ⟨t, ht⟩ := vis_form (day := day) (burning := burning) (bs := bs) i
    obtain ⟨t', ht'⟩ := vis_form (day := day) (burning := burning) (bs := bs) j
    have h1 := hge
    have h2 := he
    show vis day burning bs j = shift (day * d) (vis day burning bs i)
    rw [ht] at h1 h2
    rw [ht'] at h2
    rw [ht, ht']
    exact name_of hd hne hl hd0 h1 h2
  | n + 1 => by
    have ih := spot_per hd hb hne hl hij hd0 hge he n
    show nextOf day bs ((vis day burning bs (j + n)).1 + burning) = shift (day * d) (nextOf day bs ((vis day burning bs (i + n)).1 + burning))
    rw [ih]
    show nextOf day bs ((vis day burning bs (i + n)).1 + day * d + burning) = _
    rw [show (vis day burning bs (i + n)).1 + day * d + burning = ((vis day burning bs (i + n)).1 + burning) + day * d by omega]
    have := vis_le hd hb hne (burning := burning) (show i ≤ i + n by omega)
    exact next_shift hd hne hl (by omega) hd0
theorem spot_dist (hd : 1 ≤ day) {x y : Int} (h : x ≤ y) (e : y % day = x % day) : ∃ d : Int, 0 ≤ d ∧ y = x + day * d := by
  have h1 := Int.emod_add_mul_ediv y day
  have h2 := Int.emod_add_mul_ediv x day
  refine ⟨y / day - x / day, ?_, by rw [Int.mul_sub]; omega⟩
  have := Int.ediv_le_ediv (show 0 < day by omega) h
  omega
/-- equal spots: presses by days -/
theorem spot_Per (hd : 1 ≤ day) (hb : 1 ≤ burning) (hne : bs ≠ []) (hl : ∀ p ∈ bs, p.2 ≤ last) {i m : Nat} (hge : last ≤ (vis day burning bs i).1) (e : (vis day burning bs (i + m)).1 % day = (vis day burning bs i).1 % day) : ∃ d : Nat, Per day burning bs m d i := by
  obtain ⟨d, d0, h⟩ := spot_dist hd (vis_le hd hb hne (burning := burning) (Nat.le_add_right i m)) e
  refine ⟨d.toNat, ⟨fun k hk => ?_⟩⟩
  have := spot_per hd hb hne hl (Nat.le_add_right i m) d0 hge h (k - i)
  rw [Int.toNat_of_nonneg d0]
  rw [show i + m + (k - i) = k + m by omega, show i + (k - i) = k by omega] at this
  exact this
theorem per_pos (hd : 1 ≤ day) (hb : 1 ≤ burning) (hne : bs ≠ []) {q d a : Nat} (hq : 1 ≤ q) (p : Per day burning bs q d a) : 1 ≤ d := by
  have h := p.per a (Nat.le_refl _)
  have m := vis_mono hd hb hne (burning := burning) (show a < a + q by omega)
  rw [h] at m
  have m : (vis day burning bs a).1 < (vis day burning bs a).1 + day * d := m
  cases d with
  | zero => simp at m
  | succ n => omega
theorem per_same (hd : 1 ≤ day) {q q' a a' : Nat} {d d' : Nat} (p : Per day burning bs q d a) (p' : Per day burning bs q' d' a') : q' * d = q * d' := by
  have c1 := per_cmp hd (fun k => Int.le_refl _) p p'
  have c2 := per_cmp hd (fun k => Int.le_refl _) p' p
  have : (q' : Int) * d = q * d' := by omega
  exact_mod_cast this
theorem Core.toPer {q D a : Nat} (h : Core day burning bs q D a) : Per day burning bs q D a := ⟨h.per⟩
theorem Core.pos {q D a : Nat} (hd : 1 ≤ day) (hb : 1 ≤ burning) (hne : bs ≠ []) (h : Core day burning bs q D a) : 1 ≤ D := per_pos hd hb hne h.q1 h.toPer
/-- no fewer presses come to the same spot -/
theorem core_few (hd : 1 ≤ day) (hb : 1 ≤ burning) (hne : bs ≠ []) (hl : ∀ p ∈ bs, p.2 ≤ last) {q D a : Nat} (h : Core day burning bs q D a) {i m : Nat} (hge : last ≤ (vis day burning bs i).1) (hm : 1 ≤ m) (hmq : m < q) : (vis day burning bs (i + m)).1 % day ≠ (vis day burning bs i).1 % day := fun e => by
  obtain ⟨d, p⟩ := spot_Per hd hb hne hl hge e
  have c := per_same hd h.toPer p
  have dv : q ∣ m := (Nat.Coprime.dvd_of_dvd_mul_right (show Nat.Coprime q D from h.gcd)) ⟨d, c⟩
  have := Nat.le_of_dvd (by omega) dv
  omega
theorem spots_len (hd : 1 ≤ day) (hne : bs ≠ []) (i : Nat) : (vis day burning bs i).1 % day ∈ bs.map fun p => p.2 % day := by
  obtain ⟨p, hp, c1, c2⟩ := vis_visit (burning := burning) hd hne i
  refine List.mem_map.mpr ⟨p, hp, ?_⟩
  have := Int.emod_add_mul_ediv ((vis day burning bs i).1 - p.2) day
  rw [c2, Int.zero_add] at this
  rw [show (vis day burning bs i).1 = p.2 + day * (((vis day burning bs i).1 - p.2) / day) by omega, Int.add_mul_emod_self_left]
theorem nodup_len {α : Type} [DecidableEq α] : ∀ (l : List α) (m : List α), l.Nodup → (∀ x ∈ l, x ∈ m) → l.length ≤ m.length
  | [], _, _, _ => Nat.zero_le _
  | a :: l, m, hn, h => by
    rw [List.nodup_cons] at hn
    have ha := h a (List.mem_cons_self ..)
    have := nodup_len l (m.erase a) hn.2 fun x hx => (List.mem_erase_of_ne (fun e => hn.1 (by rw [← e]; exact hx))).mpr (h x (List.mem_cons_of_mem _ hx))
    rw [List.length_erase_of_mem ha] at this
    have := List.length_pos_of_mem ha
    rw [List.length_cons]; omega
/-- among one more presses than walkers two are at one spot -/
theorem spot_twice (hd : 1 ≤ day) (hne : bs ≠ []) (s : Nat) : ∃ i j, s ≤ i ∧ i < j ∧ j ≤ s + bs.length ∧ (vis day burning bs j).1 % day = (vis day burning bs i).1 % day := by
  by_cases h : ((List.range (bs.length + 1)).map fun k => (vis day burning bs (s + k)).1 % day).Nodup
  · exfalso
    have := nodup_len _ (bs.map fun p => p.2 % day) h fun x hx => by
      obtain ⟨k, _, rfl⟩ := List.mem_map.mp hx
      exact spots_len hd hne _
    rw [List.length_map, List.length_map, List.length_range] at this
    omega
  · refine Classical.byContradiction fun hc => h ?_
    rw [List.Nodup, List.pairwise_map, List.pairwise_iff_getElem]
    intro i j hi hj hij e
    rw [List.length_range] at hi hj
    rw [List.getElem_range, List.getElem_range] at e
    exact hc ⟨s + i, s + j, by omega, by omega, by omega, e.symm⟩
/-- rounds behind so many presses -/
theorem core_late (hd : 1 ≤ day) (hb : 1 ≤ burning) (hne : bs ≠ []) (hl : ∀ p ∈ bs, p.2 ≤ last) {q D a : Nat} (h : Core day burning bs q D a) {s : Nat} (hge : last ≤ (vis day burning bs s).1) : a ≤ s + bs.length ∧ q ≤ bs.length := by
  obtain ⟨i, j, h1, h2, h3, e⟩ := spot_twice (burning := burning) hd hne s
  have hgi : last ≤ (vis day burning bs i).1 := Int.le_trans hge (vis_le hd hb hne h1)
  obtain ⟨m, rfl⟩ : ∃ m, j = i + m := ⟨j - i, by omega⟩
  obtain ⟨d, p⟩ := spot_Per hd hb hne hl hgi e
  have c := per_same hd h.toPer p
  have dv : q ∣ m := (Nat.Coprime.dvd_of_dvd_mul_right (show Nat.Coprime q D from h.gcd)) ⟨d, c⟩
  obtain ⟨g, rfl⟩ := dv
  have hg : 1 ≤ g := by
    cases g with
    | zero => simp at h2
    | succ n => omega
  have hd' : d = D * g := by
    have : q * (g * D) = q * d := by rw [← Nat.mul_assoc]; exact c
    rw [Nat.mul_comm D, Nat.eq_of_mul_eq_mul_left (by have := h.q1; omega) this]
  have hq : q ≤ q * g := Nat.le_mul_of_pos_right _ hg
  refine ⟨?_, by omega⟩
  by_cases z : a ≤ i
  · omega
  · exfalso
    have hmin := h.min.resolve_left (by omega)
    refine hmin ?_
    -- the spots of one round are as many as that
    have hfull := h.toPer
    have key : vis day burning bs (a - 1 + q * g) = shift (day * d) (vis day burning bs (a - 1)) := p.per (a - 1) (by omega)
    -- behind a all is by rounds
    have k2 : ∀ k, a ≤ k → vis day burning bs (k + q) = shift (day * D) (vis day burning bs k) := h.per
    -- step by step back from a later one
    have k3 := (hfull.full (k := a - 1 + q * g) (by
      have : q ≤ q * g := hq
      have := h.q1
      omega) 1)
    rw [Nat.one_mul, key, shift_shift] at k3
    have k4 := p.per (a - 1 + q) (by omega)
    rw [show a - 1 + q + q * g = a - 1 + q * g + q by omega, k3] at k4
    have e1 : (vis day burning bs (a - 1)).1 + (day * d + day * (D * (1 : Nat))) = (vis day burning bs (a - 1 + q)).1 + day * d := congrArg Prod.fst k4
    have e2 : (vis day burning bs (a - 1)).2 = (vis day burning bs (a - 1 + q)).2 := (Prod.ext_iff.mp k4).2
    refine Prod.ext ?_ e2.symm
    show (vis day burning bs (a - 1 + q)).1 = (vis day burning bs (a - 1)).1 + day * D
    have e3 : (D : Int) * ((1 : Nat) : Int) = D := by simp
    rw [e3] at e1
    omega
/-! ### how long -/
theorem good_up (hd : 1 ≤ day) {b b' : Int} (hb : 1 ≤ b) (hbb : b ≤ b') (hne : bs ≠ []) {q D a q' D' a' : Nat} (h : Core day b bs q D a) (h' : Core day b' bs q' D' a') {top bottom : Int} (ht : 0 ≤ bottom) (g : (q : Int) * bottom ≤ top * D) : (q' : Int) * bottom ≤ top * D' := by
  have c := per_cmp hd (count_le hd hb (by omega) hne hne hbb fun p hp => hp) h.toPer h'.toPer
  have dp := h.pos hd hb hne
  have m1 := Int.mul_le_mul_of_nonneg_right c ht
  have m2 := Int.mul_le_mul_of_nonneg_right g (show (0 : Int) ≤ D' by omega)
  have e1 : (q' : Int) * D * bottom = (q' * bottom) * D := by rw [Int.mul_assoc, Int.mul_comm (D : Int), ← Int.mul_assoc]
  have e2 : (q : Int) * D' * bottom = q * bottom * D' := by rw [Int.mul_assoc, Int.mul_comm (D' : Int), ← Int.mul_assoc]
  have e3 : top * D * D' = (top * D') * D := by rw [Int.mul_assoc, Int.mul_comm (D : Int), ← Int.mul_assoc]
  rw [e1, e2] at m1
  rw [e3] at m2
  exact Int.le_of_mul_le_mul_right (Int.le_trans m1 m2) (by omega)
theorem steps_ge (hd : 1 ≤ day) (hne : bs ≠ []) (k : Nat) : ∀ n : Nat, (vis day burning bs k).1 + n * burning ≤ (vis day burning bs (k + n)).1
  | 0 => by simp
  | n + 1 => by
    have ih := steps_ge hd hne k n
    have := vis_step (burning := burning) hd hne (k + n)
    push_cast
    rw [Int.add_mul, Int.one_mul]
    show _ ≤ (vis day burning bs (k + n + 1)).1
    omega
theorem good_high (hd : 1 ≤ day) (hb : 1 ≤ burning) (hne : bs ≠ []) {q D a : Nat} (h : Core day burning bs q D a) {top bottom : Int} (ht : 1 ≤ top) (hbo : 1 ≤ bottom) (hh : day * bottom + 1 ≤ burning) : (q : Int) * bottom ≤ top * D := by
  have s := steps_ge (burning := burning) hd hne a q
  rw [h.per a (Nat.le_refl _)] at s
  have s : (vis day burning bs a).1 + q * burning ≤ (vis day burning bs a).1 + day * D := s
  have m := Int.mul_le_mul_of_nonneg_left hh (show (0 : Int) ≤ q by omega)
  have e : (q : Int) * (day * bottom + 1) = day * (q * bottom) + q := by rw [Int.mul_add, Int.mul_one, Int.mul_left_comm]
  rw [e] at m
  have l : day * ((q : Int) * bottom) ≤ day * D := by omega
  have l := Int.le_of_mul_le_mul_left l (by omega)
  have := Int.mul_le_mul_of_nonneg_right ht (show (0 : Int) ≤ D by omega)
  omega
/-- a greatest length -/
theorem steps_le (hd : 1 ≤ day) (hb : 1 ≤ burning) (hne : bs ≠ []) (hl : ∀ p ∈ bs, p.2 ≤ last) {s : Nat} (hge : last ≤ (vis day burning bs s).1) : ∀ n : Nat, (vis day burning bs (s + n)).1 ≤ (vis day burning bs s).1 + n * (burning + day)
  | 0 => by simp
  | n + 1 => by
    have ih := steps_le hd hb hne hl hge n
    have m := vis_le hd hb hne (burning := burning) (show s ≤ s + n by omega)
    have u := next_ub hd hne hl (t := (vis day burning bs (s + n)).1 + burning) (by omega)
    show (nextOf day bs ((vis day burning bs (s + n)).1 + burning)).1 ≤ _
    push_cast
    rw [Int.add_mul, Int.one_mul]
    omega
end
end DL
/- ==== PR ==== -/
/-! PR: there are rounds. -/
namespace DL
open PySem
section
variable {day burning : Int} {bs : Bg} {last : Int}
theorem least_nat {p : Nat → Prop} (h : ∃ n, p n) : ∃ n, p n ∧ ∀ m, m < n → ¬ p m := by
  obtain ⟨n, hn⟩ := h
  induction n using Nat.strongRecOn with
  | _ n ih =>
    by_cases z : ∃ m, m < n ∧ p m
    · obtain ⟨m, h1, h2⟩ := z
      exact ih m h1 h2
    · exact ⟨n, hn, fun m h1 h2 => z ⟨m, h1, h2⟩⟩
theorem core_of {q D : Nat} (hq : 1 ≤ q) (hg : Nat.gcd q D = 1) (h : ∃ i, Per day burning bs q D i) : ∃ a, Core day burning bs q D a := by
  obtain ⟨a, h1, h2⟩ := least_nat (p := fun i => Per day burning bs q D i) h
  refine ⟨a, h1.per, ?_, hq, hg⟩
  by_cases z : a = 0
  · exact .inl z
  · refine .inr fun e => h2 (a - 1) (by omega) ⟨fun k hk => ?_⟩
    by_cases z2 : k = a - 1
    · subst z2; exact e
    · exact h1.per k (by omega)
theorem core_ex (hd : 1 ≤ day) (hb : 1 ≤ burning) (hne : bs ≠ []) (hl : ∀ p ∈ bs, p.2 ≤ last) : ∃ q D a, Core day burning bs q D a := by
  have far : last ≤ (vis day burning bs last.toNat).1 := by
    have := vis_nn hd hb hne (burning := burning) last.toNat
    omega
  obtain ⟨i, j, h1, h2, _, e⟩ := spot_twice (burning := burning) hd hne last.toNat
  have hgi : last ≤ (vis day burning bs i).1 := Int.le_trans far (vis_le hd hb hne h1)
  obtain ⟨m0, rfl⟩ : ∃ m, j = i + m := ⟨j - i, by omega⟩
  obtain ⟨q, ⟨hq1, D, i0, hper⟩, hmin⟩ := least_nat (p := fun m => 1 ≤ m ∧ ∃ (d i : Nat), Per day burning bs m d i) ⟨m0, by omega, by
    obtain ⟨d, p⟩ := spot_Per hd hb hne hl hgi e
    exact ⟨d, i, p⟩⟩
  refine ⟨q, D, ?_⟩
  refine core_of hq1 ?_ ⟨i0, hper⟩
  have hbig : last ≤ (vis day burning bs (max i0 last.toNat)).1 := Int.le_trans far (vis_le hd hb hne (Nat.le_max_right _ _))
  have F : Found day burning bs last (max i0 last.toNat) (max i0 last.toNat + q) D := by
    refine ⟨by omega, by omega, hbig, ?_, fun k l hk hkl hl2 e => ?_⟩
    · rw [hper.per _ (Nat.le_max_left _ _)]; rfl
    · obtain ⟨r, rfl⟩ : ∃ r, l = k + r := ⟨l - k, by omega⟩
      obtain ⟨d, p⟩ := spot_Per hd hb hne hl (Int.le_trans hbig (vis_le hd hb hne hk)) e.symm
      exact hmin r (by omega) ⟨by omega, d, k, p⟩
  have g := found_prime hd hb hne hl F
  rw [show max i0 last.toNat + q - max i0 last.toNat = q by omega, Int.toNat_natCast] at g
  exact g
/-- by spots of its first presses -/
theorem core_spot (hd : 1 ≤ day) (hb : 1 ≤ burning) (hne : bs ≠ []) (hl : ∀ p ∈ bs, p.2 ≤ last) {i q D : Nat} (hq : 1 ≤ q) (hg : Nat.gcd q D = 1) (hge : last ≤ (vis day burning bs i).1) (e : (vis day burning bs (i + q)).1 = (vis day burning bs i).1 + day * D) : Per day burning bs q D i := ⟨fun k hk => by
  have := spot_per hd hb hne hl (Nat.le_add_right i q) (show (0 : Int) ≤ D by omega) hge e (k - i)
  rw [show i + q + (k - i) = k + q by omega, show i + (k - i) = k by omega] at this
  exact this⟩
end
end DL
/- ==== PS ==== -/
/-! PS: presses by days of many landings. -/
namespace DL
open PySem
theorem red_eq {T B N D : Nat} (h : T * D = N * B) (hB : 1 ≤ B) (hD : 1 ≤ D) : T / Nat.gcd T B = N / Nat.gcd N D ∧ B / Nat.gcd T B = D / Nat.gcd N D := by
  have g1 : 0 < Nat.gcd T B := Nat.gcd_pos_of_pos_right _ hB
  have g2 : 0 < Nat.gcd N D := Nat.gcd_pos_of_pos_right _ hD
  have c1 : Nat.gcd (B / Nat.gcd T B) (T / Nat.gcd T B) = 1 := by rw [Nat.gcd_comm]; exact Nat.coprime_div_gcd_div_gcd g1
  have c2 : Nat.gcd (D / Nat.gcd N D) (N / Nat.gcd N D) = 1 := by rw [Nat.gcd_comm]; exact Nat.coprime_div_gcd_div_gcd g2
  have e1 : Nat.gcd T B * (T / Nat.gcd T B) = T := Nat.mul_div_cancel' (Nat.gcd_dvd_left ..)
  have e2 : Nat.gcd T B * (B / Nat.gcd T B) = B := Nat.mul_div_cancel' (Nat.gcd_dvd_right ..)
  have e3 : Nat.gcd N D * (N / Nat.gcd N D) = N := Nat.mul_div_cancel' (Nat.gcd_dvd_left ..)
  have e4 : Nat.gcd N D * (D / Nat.gcd N D) = D := Nat.mul_div_cancel' (Nat.gcd_dvd_right ..)
  have bp : 1 ≤ B / Nat.gcd T B := Nat.div_pos (Nat.le_of_dvd hB (Nat.gcd_dvd_right ..)) g1
  generalize Nat.gcd T B = g at *
  generalize Nat.gcd N D = k at *
  generalize T / g = t at *
  generalize B / g = b at *
  generalize N / k = n at *
  generalize D / k = d at *
  have key : d * t = b * n := by
    have : (g * k) * (d * t) = (g * k) * (b * n) := by
      calc (g * k) * (d * t) = (g * t) * (k * d) := by simp only [Nat.mul_assoc, Nat.mul_left_comm, Nat.mul_comm]
        _ = (k * n) * (g * b) := by rw [e1, e2, e3, e4]; exact h
        _ = (g * k) * (b * n) := by simp only [Nat.mul_assoc, Nat.mul_left_comm, Nat.mul_comm]
    exact Nat.eq_of_mul_eq_mul_left (Nat.mul_pos g1 g2) this
  obtain ⟨h1, h2⟩ := lowest key c1 c2 bp
  exact ⟨h2, h1⟩
/-- a fraction in lowest terms -/
def redF (s : Nat × Nat) : Nat × Nat := (s.1 / Nat.gcd s.1 s.2, s.2 / Nat.gcd s.1 s.2)
def addF (s : Nat × Nat) (c : Nat × Nat) : Nat × Nat := (s.1 * c.2 + c.1 * s.2, s.2 * c.2)
theorem red_add {s c : Nat × Nat} (h1 : 1 ≤ s.2) (h2 : 1 ≤ c.2) : redF (addF (redF s) c) = redF (addF s c) := by
  obtain ⟨N, D⟩ := s
  obtain ⟨q, d⟩ := c
  have g : 0 < Nat.gcd N D := Nat.gcd_pos_of_pos_right _ h1
  have e3 : Nat.gcd N D * (N / Nat.gcd N D) = N := Nat.mul_div_cancel' (Nat.gcd_dvd_left ..)
  have e4 : Nat.gcd N D * (D / Nat.gcd N D) = D := Nat.mul_div_cancel' (Nat.gcd_dvd_right ..)
  have bp : 1 ≤ D / Nat.gcd N D := Nat.div_pos (Nat.le_of_dvd h1 (Nat.gcd_dvd_right ..)) g
  have h1 : 1 ≤ D := h1
  have h2 : 1 ≤ d := h2
  show redF (N / Nat.gcd N D * d + q * (D / Nat.gcd N D), D / Nat.gcd N D * d) = redF (N * d + q * D, D * d)
  generalize Nat.gcd N D = k at *
  generalize N / k = n at *
  generalize D / k = e at *
  have r := red_eq (T := n * d + q * e) (B := e * d) (N := N * d + q * D) (D := D * d) (by
    rw [← e3, ← e4]
    simp only [Nat.mul_add, Nat.add_mul, Nat.mul_assoc, Nat.mul_left_comm, Nat.mul_comm]) (Nat.mul_pos bp h2) (Nat.mul_pos h1 h2)
  exact Prod.ext r.1 r.2
theorem redF_le {s : Nat × Nat} : (redF s).2 ≤ s.2 := Nat.div_le_self ..
theorem redF_pos {s : Nat × Nat} (h : 1 ≤ s.2) : 1 ≤ (redF s).2 := Nat.div_pos (Nat.le_of_dvd h (Nat.gcd_dvd_right ..)) (Nat.gcd_pos_of_pos_right _ h)
section
variable {day burning : Int} {bs : Bg} {last : Int}
open Classical in
noncomputable def coreQ (day burning : Int) (bs : Bg) : Nat × Nat := if h : ∃ p : Nat × Nat, ∃ a, Core day burning bs p.1 p.2 a then Classical.choose h else (0, 1)
theorem coreQ_eq (hd : 1 ≤ day) {q D a : Nat} (h : Core day burning bs q D a) : coreQ day burning bs = (q, D) := by
  have hx : ∃ p : Nat × Nat, ∃ a, Core day burning bs p.1 p.2 a := ⟨(q, D), a, h⟩
  unfold coreQ
  rw [dif_pos hx]
  obtain ⟨a', h'⟩ := Classical.choose_spec hx
  obtain ⟨e1, e2, _⟩ := core_uniq hd h' h
  exact Prod.ext e1 e2
theorem core_days (hd : 1 ≤ day) (hb : 1 ≤ burning) (hne : bs ≠ []) (hl : ∀ p ∈ bs, p.2 ≤ last) {q D a : Nat} (h : Core day burning bs q D a) : day * D ≤ bs.length * (burning + day) := by
  have far : last ≤ (vis day burning bs last.toNat).1 := by
    have := vis_nn hd hb hne (burning := burning) last.toNat
    omega
  obtain ⟨_, hq⟩ := core_late hd hb hne hl h far
  have far2 : last ≤ (vis day burning bs (max a last.toNat)).1 := Int.le_trans far (vis_le hd hb hne (Nat.le_max_right _ _))
  have s := steps_le hd hb hne hl far2 q
  rw [h.per _ (Nat.le_max_left _ _)] at s
  have s : (vis day burning bs (max a last.toNat)).1 + day * D ≤ (vis day burning bs (max a last.toNat)).1 + q * (burning + day) := s
  have m : (q : Int) * (burning + day) ≤ bs.length * (burning + day) := Int.mul_le_mul_of_nonneg_right (by omega) (by omega)
  omega
end
end DL
/- ==== PT ==== -/
/-! PT: two who come by times. -/
namespace DL
open PySem
abbrev sAnn : Str := "ann"
abbrev sBo : Str := "bo"
def bs2 (by_ : Int) : Bg := [(sAnn, 0), (sBo, by_)]
section
variable {day B y : Int}
theorem annbo_lt : ¬ sBo.cps.toList < sAnn.cps.toList := by decide +kernel
theorem bs2_ne : bs2 y ≠ [] := by simp [bs2]
theorem visit_mult (hd : 1 ≤ day) {T f : Int} (h : (T - f) % day = 0) : ∃ j : Int, T = f + day * j := by
  have := Int.emod_add_mul_ediv (T - f) day
  rw [h, Int.zero_add] at this
  exact ⟨(T - f) / day, by omega⟩
theorem mul_gap {a b : Int} (hd : 1 ≤ day) (h : day * a < day * b + day) : a ≤ b := by
  have : day * a < day * (b + 1) := by rw [Int.mul_add, Int.mul_one]; exact h
  have := Int.lt_of_mul_lt_mul_left this (by omega)
  omega
/-- ann is next -/
theorem next2A (hd : 1 ≤ day) (h0 : 0 < y) (hy : y < day) {k t : Int} (hk : 0 ≤ k) (h1 : day * (k - 1) + y < t) (h2 : t ≤ day * k) : nextOf day (bs2 y) t = (day * k, sAnn) := by
  have hdk := Int.mul_nonneg (show 0 ≤ day by omega) hk
  have hsub : day * (k - 1) = day * k - day := by rw [Int.mul_sub, Int.mul_one]
  refine (next_eq (v := (day * k, sAnn)) hd ⟨h2, ⟨(sAnn, 0), List.mem_cons_self .., rfl, hdk, by rw [Int.sub_zero]; exact Int.mul_emod_right ..⟩, fun T a1 a2 p hp c => ?_, fun p hp c => ?_⟩).symm
  · have a2 : T < day * k := a2
    simp only [bs2, List.mem_cons, List.mem_nil_iff, or_false] at hp
    rcases hp with rfl | rfl
    · obtain ⟨j, hj⟩ := visit_mult hd c.2
      have hj : T = 0 + day * j := hj
      have l1 : k ≤ j := mul_gap hd (by omega)
      have := Int.mul_le_mul_of_nonneg_left l1 (show 0 ≤ day by omega)
      omega
    · obtain ⟨j, hj⟩ := visit_mult hd c.2
      have hj : T = y + day * j := hj
      have l1 : k ≤ j := by
        have := Int.lt_of_mul_lt_mul_left (show day * (k - 1) < day * j by omega) (by omega)
        omega
      have := Int.mul_le_mul_of_nonneg_left l1 (show 0 ≤ day by omega)
      omega
  · simp only [bs2, List.mem_cons, List.mem_nil_iff, or_false] at hp
    rcases hp with rfl | rfl
    · exact List.lt_irrefl _
    · obtain ⟨j, hj⟩ := visit_mult hd c.2
      have hj : day * k = y + day * j := hj
      have l1 : k ≤ j := mul_gap hd (by omega)
      have := Int.mul_le_mul_of_nonneg_left l1 (show 0 ≤ day by omega)
      omega
/-- bo is next -/
theorem next2B (hd : 1 ≤ day) (h0 : 0 < y) (hy : y < day) {k t : Int} (hk : 0 ≤ k) (h1 : day * k < t) (h2 : t ≤ day * k + y) : nextOf day (bs2 y) t = (day * k + y, sBo) := by
  have hdk := Int.mul_nonneg (show 0 ≤ day by omega) hk
  refine (next_eq (v := (day * k + y, sBo)) hd ⟨h2, ⟨(sBo, y), List.mem_cons_of_mem _ (List.mem_cons_self ..), rfl, (show y ≤ day * k + y by omega), by show (day * k + y - y) % day = 0; rw [Int.add_sub_cancel]; exact Int.mul_emod_right ..⟩, fun T a1 a2 p hp c => ?_, fun p hp c => ?_⟩).symm
  · have a2 : T < day * k + y := a2
    simp only [bs2, List.mem_cons, List.mem_nil_iff, or_false] at hp
    rcases hp with rfl | rfl
    · obtain ⟨j, hj⟩ := visit_mult hd c.2
      have hj : T = 0 + day * j := hj
      have l1 := Int.lt_of_mul_lt_mul_left (show day * k < day * j by omega) (by omega)
      have l2 : j ≤ k := mul_gap hd (by omega)
      omega
    · obtain ⟨j, hj⟩ := visit_mult hd c.2
      have hj : T = y + day * j := hj
      have l1 : k ≤ j := mul_gap hd (by omega)
      have := Int.mul_le_mul_of_nonneg_left l1 (show 0 ≤ day by omega)
      omega
  · simp only [bs2, List.mem_cons, List.mem_nil_iff, or_false] at hp
    rcases hp with rfl | rfl
    · exfalso
      obtain ⟨j, hj⟩ := visit_mult hd c.2
      have hj : day * k + y = 0 + day * j := hj
      have l1 := Int.lt_of_mul_lt_mul_left (show day * k < day * j by omega) (by omega)
      have l2 : j ≤ k := mul_gap hd (by omega)
      omega
    · exact List.lt_irrefl _
/-- short burnings: both press each day -/
theorem vis_short (hd : 1 ≤ day) (h0 : 0 < y) (hy : 2 * y ≤ day) (b1 : 1 ≤ B) (b2 : B ≤ y) : ∀ k : Nat, vis day B (bs2 y) (2 * k) = (day * k, sAnn) ∧ vis day B (bs2 y) (2 * k + 1) = (day * k + y, sBo)
  | 0 => by
    have e : vis day B (bs2 y) 0 = (day * (0 : Nat), sAnn) := next2A hd h0 (by omega) (Int.le_refl _) (by rw [show (((0 : Nat) : Int) - 1) = -1 by decide]; omega) (by simp)
    refine ⟨e, ?_⟩
    show nextOf day (bs2 y) ((vis day B (bs2 y) 0).1 + B) = _
    rw [e]
    exact next2B hd h0 (by omega) (by omega) (by simp; omega) (by simp; omega)
  | k + 1 => by
    obtain ⟨_, e1⟩ := vis_short hd h0 hy b1 b2 k
    have hs : day * ((k + 1 : Nat) : Int) = day * k + day := by push_cast; rw [Int.mul_add, Int.mul_one]
    have e : vis day B (bs2 y) (2 * (k + 1)) = (day * ((k + 1 : Nat) : Int), sAnn) := by
      show nextOf day (bs2 y) ((vis day B (bs2 y) (2 * k + 1)).1 + B) = _
      rw [e1]
      refine next2A hd h0 (by omega) (by omega) ?_ ?_
      · rw [Int.mul_sub, Int.mul_one, hs]; show _ < day * (k : Int) + y + B; omega
      · rw [hs]; show day * (k : Int) + y + B ≤ _; omega
    refine ⟨e, ?_⟩
    show nextOf day (bs2 y) ((vis day B (bs2 y) (2 * (k + 1))).1 + B) = _
    rw [e]
    exact next2B hd h0 (by omega) (by omega) (show day * ((k + 1 : Nat) : Int) < day * ((k + 1 : Nat) : Int) + B by omega) (show day * ((k + 1 : Nat) : Int) + B ≤ day * ((k + 1 : Nat) : Int) + y by omega)
/-- burnings of up to a day: ann alone -/
theorem vis_even (hd : 1 ≤ day) (h0 : 0 < y) (hy : y < day) (b1 : y < B) (b2 : B ≤ day) : ∀ k : Nat, vis day B (bs2 y) k = (day * k, sAnn)
  | 0 => next2A hd h0 (by omega) (Int.le_refl _) (by rw [show (((0 : Nat) : Int) - 1) = -1 by decide]; omega) (by simp)
  | k + 1 => by
    have e := vis_even hd h0 hy b1 b2 k
    have hs : day * ((k + 1 : Nat) : Int) = day * k + day := by push_cast; rw [Int.mul_add, Int.mul_one]
    show nextOf day (bs2 y) ((vis day B (bs2 y) k).1 + B) = _
    rw [e]
    refine next2A hd h0 hy (by omega) ?_ ?_
    · rw [Int.mul_sub, Int.mul_one, hs]; show _ < day * (k : Int) + B; omega
    · rw [hs]; show day * (k : Int) + B ≤ _; omega
/-- a day and one tick: in turn -/
theorem vis_long (hd : 1 ≤ day) (h0 : 0 < y) (hy : y < day) : ∀ k : Nat, vis day (day + 1) (bs2 y) (2 * k) = (day * (3 * k), sAnn) ∧ vis day (day + 1) (bs2 y) (2 * k + 1) = (day * (3 * k + 1) + y, sBo)
  | 0 => by
    have e : vis day (day + 1) (bs2 y) 0 = (day * (3 * ((0 : Nat) : Int)), sAnn) := next2A hd h0 (by omega) (by decide) (by simp; omega) (by simp)
    refine ⟨e, ?_⟩
    show nextOf day (bs2 y) ((vis day (day + 1) (bs2 y) 0).1 + (day + 1)) = _
    rw [e]
    exact next2B hd h0 (by omega) (by decide) (by simp; omega) (by simp; omega)
  | k + 1 => by
    obtain ⟨_, e1⟩ := vis_long hd h0 hy k
    have hs : day * (3 * ((k + 1 : Nat) : Int)) = day * (3 * k) + 3 * day := by push_cast; rw [Int.mul_add, Int.mul_add]; omega
    have hs1 : day * (3 * (k : Int) + 1) = day * (3 * k) + day := by rw [Int.mul_add, Int.mul_one]
    have hs2 : day * (3 * ((k + 1 : Nat) : Int) + 1) = day * (3 * k) + 4 * day := by rw [Int.mul_add, hs]; omega
    have e : vis day (day + 1) (bs2 y) (2 * (k + 1)) = (day * (3 * ((k + 1 : Nat) : Int)), sAnn) := by
      show nextOf day (bs2 y) ((vis day (day + 1) (bs2 y) (2 * k + 1)).1 + (day + 1)) = _
      rw [e1]
      refine next2A hd h0 (by omega) (by omega) ?_ ?_
      · rw [Int.mul_sub, Int.mul_one, hs]; show _ < day * (3 * (k : Int) + 1) + y + (day + 1); omega
      · rw [hs]; show day * (3 * (k : Int) + 1) + y + (day + 1) ≤ _; omega
    refine ⟨e, ?_⟩
    show nextOf day (bs2 y) ((vis day (day + 1) (bs2 y) (2 * (k + 1))).1 + (day + 1)) = _
    rw [e]
    refine next2B hd h0 (by omega) (by omega) ?_ ?_
    · rw [hs2]; show _ < day * (3 * ((k + 1 : Nat) : Int)) + (day + 1); omega
    · rw [hs2]; show day * (3 * ((k + 1 : Nat) : Int)) + (day + 1) ≤ _; omega
theorem core_short (hd : 1 ≤ day) (h0 : 0 < y) (hy : 2 * y ≤ day) (b1 : 1 ≤ B) (b2 : B ≤ y) : Core day B (bs2 y) 2 1 0 := by
  have v := vis_short hd h0 hy b1 b2
  refine ⟨fun k _ => ?_, .inl rfl, by decide, by decide⟩
  rcases Nat.mod_two_eq_zero_or_one k with z | z
  · obtain ⟨j, rfl⟩ : ∃ j, k = 2 * j := ⟨k / 2, by omega⟩
    rw [(v j).1, show 2 * j + 2 = 2 * (j + 1) by omega, (v (j + 1)).1]
    refine Prod.ext ?_ rfl
    show day * ((j + 1 : Nat) : Int) = day * j + day * ((1 : Nat) : Int)
    push_cast; rw [Int.mul_add]
  · obtain ⟨j, rfl⟩ : ∃ j, k = 2 * j + 1 := ⟨k / 2, by omega⟩
    rw [(v j).2, show 2 * j + 1 + 2 = 2 * (j + 1) + 1 by omega, (v (j + 1)).2]
    refine Prod.ext ?_ rfl
    show day * ((j + 1 : Nat) : Int) + y = day * j + y + day * ((1 : Nat) : Int)
    push_cast; rw [Int.mul_add]; omega
theorem core_even (hd : 1 ≤ day) (h0 : 0 < y) (hy : y < day) (b1 : y < B) (b2 : B ≤ day) : Core day B (bs2 y) 1 1 0 := by
  have v := vis_even hd h0 hy b1 b2
  refine ⟨fun k _ => ?_, .inl rfl, by decide, by decide⟩
  rw [v, v]
  refine Prod.ext ?_ rfl
  show day * ((k + 1 : Nat) : Int) = day * k + day * ((1 : Nat) : Int)
  push_cast; rw [Int.mul_add]
theorem core_long (hd : 1 ≤ day) (h0 : 0 < y) (hy : y < day) : Core day (day + 1) (bs2 y) 2 3 0 := by
  have v := vis_long hd h0 hy
  refine ⟨fun k _ => ?_, .inl rfl, by decide, by decide⟩
  rcases Nat.mod_two_eq_zero_or_one k with z | z
  · obtain ⟨j, rfl⟩ : ∃ j, k = 2 * j := ⟨k / 2, by omega⟩
    rw [(v j).1, show 2 * j + 2 = 2 * (j + 1) by omega, (v (j + 1)).1]
    refine Prod.ext ?_ rfl
    show day * (3 * ((j + 1 : Nat) : Int)) = day * (3 * j) + day * ((3 : Nat) : Int)
    push_cast; rw [← Int.mul_add]; first | done | (congr 1; omega) | congr 1
  · obtain ⟨j, rfl⟩ : ∃ j, k = 2 * j + 1 := ⟨k / 2, by omega⟩
    rw [(v j).2, show 2 * j + 1 + 2 = 2 * (j + 1) + 1 by omega, (v (j + 1)).2]
    refine Prod.ext ?_ rfl
    show day * (3 * ((j + 1 : Nat) : Int) + 1) + y = day * (3 * j + 1) + y + day * ((3 : Nat) : Int)
    have : day * (3 * ((j + 1 : Nat) : Int) + 1) = day * (3 * j + 1) + day * ((3 : Nat) : Int) := by
      push_cast; rw [← Int.mul_add]; first | done | (congr 1; omega) | congr 1
    omega
end
end DL
/- ==== PU ==== -/
/-! PU: rounds found in a window of presses. -/
namespace DL
open PySem
section
variable {day burning : Int} {bs : Bg}
/-- the first press at 45 or later -/
theorem first_from (hd : 1 ≤ day) (hb : 1 ≤ burning) (hne : bs ≠ []) (hl : ∀ p ∈ bs, p.2 ≤ 45) : ∃ s : Nat, (∀ k, k < s → (vis day burning bs k).1 < 45) ∧ (∀ k, s ≤ k → 45 ≤ (vis day burning bs k).1) ∧ (vis day burning bs s).1 ≤ 45 + burning + day := by
  have ex : ∃ k : Nat, 45 ≤ (vis day burning bs k).1 := ⟨45, by
    have := vis_nn hd hb hne (burning := burning) 45
    omega⟩
  obtain ⟨s, h1, h2⟩ := least_nat ex
  refine ⟨s, fun k hk => by have := h2 k hk; omega, fun k hk => by have := vis_le hd hb hne (burning := burning) hk; omega, ?_⟩
  cases s with
  | zero =>
    have := next_ub2 hd hne hl 0
    show (nextOf day bs 0).1 ≤ _
    omega
  | succ s =>
    have h3 := h2 s (by omega)
    have := next_ub2 hd hne hl ((vis day burning bs s).1 + burning)
    show (nextOf day bs ((vis day burning bs s).1 + burning)).1 ≤ _
    omega
theorem filter_early (f : Nat → Int) (s : Nat) (h1 : ∀ k, k < s → f k < 45) (h2 : ∀ k, s ≤ k → 45 ≤ f k) : ∀ m : Nat, s ≤ m → (((List.range m).filter fun k => decide (f k < 45))).length = s
  | 0, h => by simp; omega
  | m + 1, h => by
    rw [List.range_succ, List.filter_append, List.length_append]
    rcases Nat.lt_or_ge m s with z | z
    · have e : s = m + 1 := by omega
      have all : ((List.range m).filter fun k => decide (f k < 45)) = List.range m := List.filter_eq_self.mpr fun k hk => by
        have := List.mem_range.mp hk
        simpa using h1 k (by omega)
      rw [all, List.length_range, List.filter_cons, if_pos (by simpa using h1 m z)]
      simp; omega
    · rw [filter_early f s h1 h2 m z, List.filter_cons, if_neg (by simpa using h2 m z)]; rfl
/-- presses of a window come again by so many days -/
def Comes2 (day : Int) (f : Nat → Int × Str) (M b m : Nat) (d : Int) : Prop := b + m < M ∧ ∀ p, b ≤ p → p + m < M → f (p + m) = shift (day * d) (f p)
theorem comes2_yes {q D a M b : Nat} (h : Core day burning bs q D a) (hb : a ≤ b) (hM : b + q < M) : Comes2 day (vis day burning bs) M b q D := ⟨hM, fun p hp _ => h.per p (by omega)⟩
theorem comes2_few (hd : 1 ≤ day) (hb : 1 ≤ burning) (hne : bs ≠ []) {last : Int} (hl : ∀ p ∈ bs, p.2 ≤ last) {q D a M b m : Nat} {d : Int} (h : Core day burning bs q D a) (hge : last ≤ (vis day burning bs b).1) (hm : 1 ≤ m) (hmq : m < q) : ¬ Comes2 day (vis day burning bs) M b m d := fun ⟨h1, h2⟩ => by
  refine core_few hd hb hne hl h hge hm hmq ?_
  rw [h2 b (Nat.le_refl _) h1]
  show ((vis day burning bs b).1 + day * d) % day = _
  rw [Int.add_mul_emod_self_left]
theorem shift_inj {day d d' : Int} {v : Int × Str} (hd : 1 ≤ day) (h : shift (day * d) v = shift (day * d') v) : d = d' := by
  have h : v.1 + day * d = v.1 + day * d' := congrArg Prod.fst h
  exact Int.eq_of_mul_eq_mul_left (show day ≠ 0 by omega) (by omega)
theorem comes2_first (hd : 1 ≤ day) {q D a M : Nat} {d : Int} (h : Core day burning bs q D a) (ha : 0 < a) (hM : a + q < M) : ¬ Comes2 day (vis day burning bs) M (a - 1) q d := fun ⟨h1, h2⟩ => by
  have e := h2 a (by omega) hM
  rw [h.per a (Nat.le_refl _)] at e
  have e := shift_inj hd e
  subst e
  exact (h.min.resolve_left (by omega)) (h2 (a - 1) (Nat.le_refl _) (by omega))
theorem comes2_uniq (hd : 1 ≤ day) {f : Nat → Int × Str} {M b m : Nat} {d d' : Int} (h : Comes2 day f M b m d) (h' : Comes2 day f M b m d') : d = d' := by
  have e := h.2 b (Nat.le_refl _) h.1
  rw [h'.2 b (Nat.le_refl _) h'.1] at e
  exact (shift_inj hd e).symm
end
end DL
/- ==== DLq ==== -/
/-! DLq: a method that works on its own object: slot 0 is self, its list stands at r. -/
namespace DL
open PySem PySem.Spec PyProof.Rows L2 RZ
def putP (f : Str) (q : PyData) : List (Str × PyData) → List (Str × PyData)
  | [] => [(f, q)]
  | (g, x) :: r => if g = f then (g, q) :: r else (g, x) :: putP f q r
/-- data that hangs on no list -/
def flat1 : PyData → Bool
  | .tuple l => l.all flatP
  | q => flatP q
def lite : D → Prop
  | .py q => flat1 q = true
  | .od kvs => ∀ p ∈ kvs, flat1 p.2 = true
  | _ => False
structure WSt (K : Kf) (p r C : Addr) (Ge He : Hp) (bg : PyData) (S : Slots) (σ : L2.St) (G H : Hp) : Prop where
  sl : Sl K [] He S σ G H
  up : Same Ge G
  keep : ∀ a o, He a = some o → a ≠ p → a ≠ r → Ge a = none → H a = some o ∧ G a = none
  ob : ∃ dx vs b, G p = some (.ins C dx vs) ∧ vs.lookup ("rows" : Str) = some (.ref r) ∧ vs.lookup ("begun" : Str) = some b ∧ Dt K Ge b bg
  rw : ∃ rv, G r = some (.lst rv)
section
variable (K : Kf) (p r C : Addr) (Ge He : Hp) (bg : PyData)
def nxW (P : Slots → Prop) (σ : L2.St) (H : Hp) : Prop := ∃ G S, WSt K p r C Ge He bg S σ G H ∧ P S
def lW (ds : DS) : TS := fun D σ H => ∃ E : DEnds, E.rt = (fun _ => False) ∧ nxW K p r C Ge He bg (ds E) σ H ∧ (∀ σ' H', nxW K p r C Ge He bg E.nx σ' H' → D.nx σ' H') ∧ (∀ σ' H', nxW K p r C Ge He bg E.bk σ' H' → D.bk σ' H') ∧ (∀ σ' H', nxW K p r C Ge He bg E.ct σ' H' → D.ct σ' H')
end
theorem WSt.old {K : Kf} {p r C : Addr} {Ge He : Hp} {bg : PyData} {S : Slots} {σ : L2.St} {G H : Hp} (w : WSt K p r C Ge He bg S σ G H) : Old [] G He G H := ⟨fun _ _ h => h, fun a o h h' _ => by
  obtain ⟨dx, vs, b, e1, _⟩ := w.ob
  obtain ⟨rv, e2⟩ := w.rw
  have n1 : a ≠ p := fun e => by subst e; rw [e1] at h'; cases h'
  have n2 : a ≠ r := fun e => by subst e; rw [e2] at h'; cases h'
  cases q : Ge a with
  | none => exact w.keep a o h n1 n2 q
  | some u => have := w.up a u q; rw [h'] at this; cases this⟩
/-- a step that leaves the object as it is -/
theorem WSt.next {K : Kf} {p r C : Addr} {Ge He : Hp} {bg : PyData} {S S' : Slots} {σ σ' : L2.St} {G H G' H' : Hp} (w : WSt K p r C Ge He bg S σ G H) (s : Sl K [] He S' σ' G' H') (o : Old [] G He G' H') : WSt K p r C Ge He bg S' σ' G' H' := by
  obtain ⟨dx, vs, b, e1, e2⟩ := w.ob
  obtain ⟨rv, e3⟩ := w.rw
  refine ⟨s, w.up.trans o.up, fun a u h n1 n2 h' => ?_, ⟨dx, vs, b, o.up _ _ e1, e2⟩, ⟨rv, o.up _ _ e3⟩⟩
  exact o.keep a u h (w.keep a u h n1 n2 h').2 (by simp)
section
variable {X : Cx} {p r C : Addr} {Ge He : Hp} {bg : PyData} {st : Stmt} {rest : List Stmt} {a b : DS} {ta : DT} {de : DE} {pos pos' : Pos} {e : Expr}
theorem w_of (h : PDS X [] He st a) : PS X st (lW X.K p r C Ge He bg a) := PSmono h fun D σ H ⟨E, er, ⟨G, S, w, hd⟩, q1, q3, q4⟩ => by
  have cv : ∀ {P : Slots → Prop} {σ' H'}, nxOf X.K [] G He P σ' H' → nxW X.K p r C Ge He bg P σ' H' := fun ⟨G', S', k1, k2, k3⟩ => ⟨G', S', w.next k1 k2, k3⟩
  refine ⟨G, E, ⟨G, S, w.sl, w.old, hd⟩, fun σ' H' z => q1 _ _ (cv z), fun v H' ⟨_, _, _, _, _, _, z⟩ => ?_, fun σ' H' z => q3 _ _ (cv z), fun σ' H' z => q4 _ _ (cv z)⟩
  rw [er] at z; exact z.elim
theorem w_cons (h1 : PS X st (lW X.K p r C Ge He bg a)) (h2 : PSs X rest (lW X.K p r C Ge He bg b)) : PSs X (st :: rest) (lW X.K p r C Ge He bg (dSeq a b)) := PSsmono (pss_cons h1 h2) fun D σ H ⟨E, er, hn, q1, q3, q4⟩ =>
  ⟨{ E with nx := b E }, er, hn, fun σ' H' z => ⟨E, er, z, q1, q3, q4⟩, q3, q4⟩
theorem w_one (h1 : PS X st (lW X.K p r C Ge He bg a)) : PSs X [st] (lW X.K p r C Ge He bg a) := pss_one h1
theorem w_while {c : Expr} {body : List Stmt} (hp : PassesOwn (model X.prog X.w) X.A X.env X.xe) (hc : PDT X [] He c ta) (hb : PSs X body (lW X.K p r C Ge He bg b)) : PS X (.While c body [] pos) (lW X.K p r C Ge He bg (dWhile ta b)) := PSmono (ps_while hp hc hb) fun D σ H ⟨E, er, ⟨G, S, w, W, ⟨m0, w0⟩, turn⟩, q1, q3, q4⟩ => by
  refine ⟨fun m σ H => nxW X.K p r C Ge He bg (W m) σ H, ⟨m0, G, S, w, w0⟩, fun m σ H ⟨G, S, w, hw⟩ => ?_⟩
  refine ⟨G, S, _, w.sl, turn m S hw, fun k G' H' s z => ?_⟩
  have w' : WSt X.K p r C Ge He bg S σ G' H' := w.next (w.sl.step s) (w.old.trans s.toOld)
  cases k with
  | true =>
    rw [if_pos rfl] at z
    show (if true = true then _ else _)
    rw [if_pos rfl]
    refine ⟨fun σ' H' => nxW X.K p r C Ge He bg (fun S' => ∃ m', m' < m ∧ W m' S') σ' H', fun σ' H' ⟨G, S, h1, m', h3, h4⟩ => ⟨m', h3, G, S, h1, h4⟩, ?_⟩
    exact ⟨{ E with nx := fun S' => ∃ m', m' < m ∧ W m' S', ct := fun S' => ∃ m', m' < m ∧ W m' S', bk := E.nx }, er, ⟨G', S, w', z⟩, fun _ _ h => h, fun σ' H' h => q1 _ _ h, fun _ _ h => h⟩
  | false =>
    rw [if_neg Bool.false_ne_true] at z
    show (if false = true then _ else _)
    rw [if_neg Bool.false_ne_true]
    exact q1 _ _ ⟨G', S, w', z⟩
end

/-! ### the object changes: what hangs on no list stays -/
theorem flat_dt {K : Kf} {G G' : Hp} {v : V} {q : PyData} (h : Dt K G v q) (hf : flatP q = true) : Dt K G' v q := by
  cases h with
  | non => exact .non
  | bl b => exact .bl b
  | int b => exact .int b
  | str b => exact .str b
  | lst _ _ => cases hf
  | tup _ _ => cases hf
theorem flat_dta {K : Kf} {G G' : Hp} : ∀ {vs : List V} {qs : List PyData}, DtAll K G vs qs → qs.all flatP = true → DtAll K G' vs qs
  | _, _, .nil, _ => .nil
  | _, _, .cons h t, e => by
    rw [List.all_cons, Bool.and_eq_true] at e
    exact .cons (flat_dt h e.1) (flat_dta t e.2)
/-- no tuple stands at a -/
def NoTup (G : Hp) (a : Addr) : Prop := ∀ ws, ¬ Rd G a (.tup ws)
theorem noTup_lst {G : Hp} {a : Addr} {rv : List V} (h : G a = some (.lst rv)) : NoTup G a := fun ws z => by
  rcases z with z | ⟨o, z⟩
  · rw [h] at z; cases z
  · rw [h] at z; cases z
theorem noTup_ins {G : Hp} {a C dx : Addr} {fs : List (Str × V)} (h : G a = some (.ins C dx fs)) : NoTup G a := fun ws z => by
  rcases z with z | ⟨o, z⟩
  · rw [h] at z; cases z
  · rw [h] at z; cases z
theorem sqT_upd {K : Kf} {G : Hp} {t a : Addr} {vs : List V} {o : HO} (h : SqT K G t vs) (hn : NoTup G a) : SqT K (upd G a o) t vs := by
  rcases h with h | h
  · have ne : t ≠ a := fun e => by subst e; exact hn _ h
    refine .inl ?_
    unfold Rd at h ⊢
    rw [upd_ne ne]; exact h
  · exact .inr h
theorem lite_dt {K : Kf} {G : Hp} {a : Addr} {o : HO} {v : V} {q : PyData} (h : Dt K G v q) (hf : flat1 q = true) (hn : NoTup G a) : Dt K (upd G a o) v q := by
  cases h with
  | non => exact .non
  | bl b => exact .bl b
  | int b => exact .int b
  | str b => exact .str b
  | lst _ _ => cases hf
  | tup k1 k2 => exact .tup (sqT_upd k1 hn) (flat_dta k2 hf)
theorem lite_dta {K : Kf} {G : Hp} {a : Addr} {o : HO} (hn : NoTup G a) : ∀ {vs : List V} {qs : List PyData}, DtAll K G vs qs → (∀ q ∈ qs, flat1 q = true) → DtAll K (upd G a o) vs qs
  | _, _, .nil, _ => .nil
  | _, _, .cons h t, e => .cons (lite_dt h (e _ (List.mem_cons_self ..)) hn) (lite_dta hn t fun q hq => e q (List.mem_cons_of_mem _ hq))
theorem lite_kv {κ : Type} {K : Kf} {G : Hp} {a : Addr} {o : HO} (hn : NoTup G a) : ∀ {vs : List (κ × V)} {kvs : List (κ × PyData)}, KvR K G vs kvs → (∀ q ∈ kvs, flat1 q.2 = true) → KvR K (upd G a o) vs kvs
  | _, _, .nil, _ => .nil
  | _, _, .cons h t, e => .cons ⟨h.1, lite_dt h.2 (e _ (List.mem_cons_self ..)) hn⟩ (lite_kv hn t fun q hq => e q (List.mem_cons_of_mem _ hq))
theorem lite_rp {K : Kf} {G H : Hp} {a : Addr} {o : HO} {u : HO} {d : D} {v : V} (h : Rp K [] G H d v) (hf : lite d) (hn : NoTup G a) (ha : G a = some u) : Rp K [] (upd G a o) (upd H a o) d v := by
  cases d with
  | py q => exact lite_dt h hf hn
  | od kvs =>
    obtain ⟨x, vs, rfl, w1, w2, w3⟩ := h
    have ne : x ≠ a := fun e => by subst e; rw [w1.1] at ha; cases ha
    exact ⟨x, vs, rfl, ⟨by rw [upd_ne ne]; exact w1.1, w1.2⟩, by rw [upd_ne ne]; exact w2, lite_kv hn w3 hf⟩
  | _ => exact hf.elim
/-- the work object's own list, or the object itself, is changed -/
theorem WSt.write {K : Kf} {p r C : Addr} {Ge He : Hp} {bg : PyData} {S : Slots} {σ : L2.St} {G H : Hp} (w : WSt K p r C Ge He bg S σ G H) (hp : Ge p = none) (hr : Ge r = none) {a : Addr} {u o : HO} (ha : a = p ∨ a = r) (hg : G a = some u) (hn : NoTup G a)
    {x : Addr} {fs fs' : List (Str × PyData)} (h0 : S[0]? = some (some (.ins x C fs))) (hl : ∀ (i : Nat) (d : D), 0 < i → S[i]? = some (some d) → lite d)
    (hx : ∃ dx vs, upd G a o x = some (.ins C dx vs) ∧ KvR K (upd G a o) vs fs')
    (ob : ∃ dx vs b, upd G a o p = some (.ins C dx vs) ∧ vs.lookup ("rows" : Str) = some (.ref r) ∧ vs.lookup ("begun" : Str) = some b ∧ Dt K Ge b bg) (rw : ∃ rv, upd G a o r = some (.lst rv)) :
    WSt K p r C Ge He bg (S.set 0 (some (.ins x C fs'))) σ (upd G a o) (upd H a o) := by
  have hge : Ge a = none := by rcases ha with e | e <;> rw [e] <;> assumption
  refine ⟨⟨⟨Same.updB w.sl.wd.sub, fun b hb => by simp at hb⟩, by rw [List.length_set]; exact w.sl.len, fun j e hj => ?_, fun j k dj dk q hjk h1 h2 o1 o2 q1 q2 => ?_⟩, fun b z hz => ?_, fun b z hz n1 n2 h' => ?_, ob, rw⟩
  · rcases set_get hj with ⟨rfl, e1, hl⟩ | ⟨ne, h2⟩
    · cases e1
      obtain ⟨v, k1, k2, _⟩ := w.sl.slot 0 _ h0
      obtain ⟨dx, vs, rfl, _⟩ := k2
      obtain ⟨dx', vs', g1, g2⟩ := hx
      exact ⟨_, k1, ⟨dx', vs', rfl, g1, g2⟩, fun z => z.elim⟩
    · obtain ⟨v, k1, k2, k3⟩ := w.sl.slot j e h2
      exact ⟨v, k1, lite_rp k2 (hl j e (by omega) h2) hn hg, k3⟩
  · rcases set_get h1 with ⟨rfl, e1, _⟩ | ⟨ne1, h1⟩
    · cases e1; exact o1
    · rcases set_get h2 with ⟨rfl, e2, _⟩ | ⟨ne2, h2⟩
      · cases e2; exact o2
      · exact w.sl.sep j k dj dk q hjk h1 h2 o1 o2 q1 q2
  · have ne : b ≠ a := fun e => by subst e; rw [hge] at hz; cases hz
    rw [upd_ne ne]; exact w.up b z hz
  · have ne : b ≠ a := fun e => by subst e; rcases ha with e | e <;> subst e <;> first | exact n1 rfl | exact n2 rfl
    obtain ⟨k1, k2⟩ := w.keep b z hz n1 n2 h'
    rw [upd_ne ne, upd_ne ne]; exact ⟨k1, k2⟩

/-! a, b, c = e, {}, f -/
def dPar3D (i j l : Nat) (a c : DE) : DS := fun E S => a S fun x => c S fun z => match x, z with
  | .py x, .py z => E.nx (((S.set i (some (.py x))).set j (some (.od []))).set l (some (.py z)))
  | _, _ => False
section
variable {X : Cx} {B : List Addr} {H0 : Hp} {da dc : DE} {pos : Pos}
theorem psd_par3D {i j l : Nat} {x y z : Str} {a c : Expr} {px py pz pt pd : Pos} {kt k2 pt2} (hc : X.calm = true) (hN : X.N.Nodup) (hi : X.N[i]? = some x) (hj : X.N[j]? = some y) (hl : X.N[l]? = some z) (hij : i ≠ j) (hil : i ≠ l) (hjl : j ≠ l)
    (hx : X.env.scope.names.lookup x = some .local) (hy : X.env.scope.names.lookup y = some .local) (hz : X.env.scope.names.lookup z = some .local) (ha : PD X B H0 a da) (hcc : PD X B H0 c dc)
    (hw : swappedStores [.Tuple [.Name x px, .Name y py, .Name z pz] kt pt] (.Tuple [a, .Dict [] [] pd, c] k2 pt2) X.env = pure (some [x, y, z])) (s1 : starEach [a, .Dict [] [] pd, c] X.env = (false, eval a X.env) :: starEach [.Dict [] [] pd, c] X.env := by rfl) (s2 : starEach [.Dict [] [] pd, c] X.env = (false, eval (.Dict [] [] pd) X.env) :: starEach [c] X.env := by rfl) (s3 : starEach [c] X.env = (false, eval c X.env) :: starEach [] X.env := by rfl)
    (hs : swapsWithSole [.Tuple [.Name x px, .Name y py, .Name z pz] kt pt] (.Tuple [a, .Dict [] [] pd, c] k2 pt2) pos.line X.env = pure false := by rfl) :
    PDS X B H0 (.Assign [.Tuple [.Name x px, .Name y py, .Name z pz] kt pt] (.Tuple [a, .Dict [] [] pd, c] k2 pt2) pos) (dPar3D i j l da dc) := PSmono (ps_par3 hc hN hi hj hl hij hil hjl hx hy hz (pa_cons ha (pa_cons pe_dnewK (pa_cons hcc pa_nil s3) s2) s1) hw hs) fun D σ H ⟨G0, E, ⟨G, S, hs, ho, hd⟩, q1, q2, q3, q4⟩ => by
  refine ⟨G, S, _, hs, hd, fun v d G1 H1 e1 r1 p1 q hq => ?_⟩
  have lay := Stp.lay e1.wd hq (.dK [])
  refine ⟨G1, S, _, hs.step (e1.trans lay), p1, fun v2 d2 G2 H2 e2 r2 p2 => ⟨v, _, v2, rfl, q1 _ _ ?_⟩⟩
  split at p2
  · have hg : G1 q = none := e1.wd.sub.free hq
    have hb := bag_ne e1.wd hq
    have k := e2.keep q _ upd_same hg hb
    have t1 := (hs.step (e1.trans (lay.trans e2))).set i (Rp.up (lay.trans e2).toOld r1) (fun z => z)
    have t0 := (hs.step e1).set i r1 (fun z => z)
    refine ⟨G2, _, (t1.setOwn (p := q) (d := .od []) j ⟨q, [], rfl, ⟨k.2, hb⟩, k.1, .nil⟩ ((ho.trans e1.toOld).dom e1.wd hq) fun m dm hm om ne e => ?_).set l r2 (fun z => z), ho.trans (e1.trans (lay.trans e2)).toOld, p2⟩
    obtain ⟨u, h1, h2, _⟩ := t0.slot m dm hm
    rw [e] at h1; cases h1
    cases dm with
    | ol ds => obtain ⟨q', vs, e1, _, h3, _⟩ := h2; cases e1; rw [hq] at h3; cases h3
    | od ds => obtain ⟨q', vs, e1, _, h3, _⟩ := h2; cases e1; rw [hq] at h3; cases h3
    | _ => exact om.elim
  · exact p2.elim
end
end DL
/- ==== DLr ==== -/
/-! DLr: xs.count(z) of texts. -/
namespace DL
open PySem PySem.Spec PyProof.Rows L2 RZ
def eqTx (z : Str) (v : Value) : Bool := match v with
  | .str n _ => n == z
  | _ => false
theorem eqTx_at {A : Around} {s : Shared} {z : Str} {t : Tok} : ∀ {us : List Value} {zs : List Str}, Vals (zs.map V.str) us → ∀ y ∈ us, SeqAt.EqAt A s y (.str z t) (eqTx z y)
  | _, [], .nil => fun y h => by cases h
  | _, n :: zs, .cons r h => fun y hy => by
    rcases List.mem_cons.mp hy with e | e
    · obtain ⟨u, e2⟩ := r
      rw [e, e2]; exact SeqAt.EqAt.str_str n u z t
    · exact eqTx_at h y e
theorem eqTx_count {z : Str} : ∀ {us : List Value} {zs : List Str}, Vals (zs.map V.str) us → us.countP (eqTx z) = zs.count z
  | _, [], .nil => rfl
  | _, n :: zs, .cons r h => by
    obtain ⟨u, e⟩ := r
    rw [List.countP_cons, List.count_cons, eqTx_count (z := z) h, e]; rfl
def rCntS (K : Kf) : V → List V → Hp → VK → Prop := fun x xs H Q => ∃ (p : Addr) (zs : List Str) (z : Str), x = .ref p ∧ xs = [.str z] ∧ SqL K H p (zs.map V.str) ∧ Q (.int (zs.count z : Nat)) H
theorem mt_countS {X : Cx} : MtR X "list.count" (rCntS X.K) := by
  rintro pins s σ H x xs v us Q I rx rxs ⟨p, zs, z, rfl, rfl, hs, q⟩
  cases rx
  obtain ⟨u, rfl, t, rfl⟩ := rxs.one
  obtain ⟨its, rv, ⟨⟨cls, dd, data, sl⟩, n, ho, hc, hdn, hd⟩, _⟩ := I.list hs
  simp only at hc hd
  subst hc hd
  refine call_meets PySem.F.slot_list_count ⟨_, ho, rfl⟩ PySem.F.entry_list_count (PySem.F.args_list_count_2 _ _) (SeqAt.list_countAt p its.toArray n dd sl (.str z t) (eqTx z)) ⟨ho, fun y hy => eqTx_at rv y (by simpa using hy), ?_⟩
  refine ⟨.int (zs.count z : Nat), H, I.tok _, ⟨s.toks, ?_⟩, q⟩
  show Value.int ((its.toArray.toList.countP (eqTx z) : Nat) : Int) s.toks = _
  rw [List.toList_toArray, eqTx_count rv]
def dCntS (a b : DE) : DE := fun S post => a S fun x => ∃ zs : List Str, x.lsti = some (zs.map PyData.str) ∧ b S fun y => ∃ z : Str, y = .py (.str z) ∧ post (.py (.int (zs.count z : Nat)))
section
variable {X : Cx} {B : List Addr} {H0 : Hp} {o e : Expr} {da db : DE} {apos cpos : Pos}
theorem count_lift {σ : L2.St} {H : Hp} {Q : VK} (h : lE X.K B H0 (dCntS da db) σ H Q) : tBM X.K "list" (rCntS X.K) (lE X.K B H0 da) (tCons (lE X.K B H0 db) tNil) σ H Q := by
  obtain ⟨G, S, post, hs, hd, hq⟩ := h
  refine ⟨G, S, _, hs, hd, fun v d G1 H1 s1 r1 p1 => ?_⟩
  obtain ⟨zs, e1, p1⟩ := p1
  obtain ⟨p, vs, rfl, h1, h2⟩ := rp_lst s1.wd r1 e1
  refine ⟨Or.inl ⟨rfl, _, SqL.of h1⟩, G1, S, _, hs.step s1, p1, fun y dy G2 H2 s2 r2 p2 => ?_⟩
  obtain ⟨z, rfl, p2⟩ := p2
  cases r2
  obtain ⟨p', vs', e2, h3, h4⟩ := rp_lst s2.wd (Rp.up s2.toOld r1) e1
  cases e2
  have := DtAll.strs h4
  subst this
  exact ⟨p, zs, z, rfl, rfl, SqL.of h3, hq _ (.py (.int _)) G2 H2 (s1.trans s2) (Rp.int _) p2⟩
theorem pd_count (ho : PD X B H0 o da) (he : PD X B H0 e db)
    (hp : ∀ {to : TE} {t : TA}, PE X o to → PA X [e] t → PE X (.Call (.Attribute o "count" apos) [e] [] cpos) (tBM X.K "list" (rCntS X.K) to t)) (hst : starEach [e] X.env = (false, eval e X.env) :: starEach [] X.env := by rfl) : PD X B H0 (.Call (.Attribute o "count" apos) [e] [] cpos) (dCntS da db) :=
  PEmono (hp ho (pa_cons he pa_nil hst)) fun σ H Q h => count_lift h
end
end DL
/- ==== DLs ==== -/
/-! DLs: a tuple, turned round. -/
namespace DL
open PySem PySem.Spec PyProof.Rows L2 RZ
theorem fm_map {α β : Type} {f : α → Option β} {g : α → β} : ∀ l : List α, (∀ x ∈ l, f x = some (g x)) → l.filterMap f = l.map g
  | [], _ => rfl
  | a :: l, h => by
    rw [List.filterMap_cons, h a (List.mem_cons_self ..), List.map_cons, fm_map l fun x hx => h x (List.mem_cons_of_mem _ hx)]
theorem back_pick (xs : Array Value) : ((List.range xs.size).filterMap fun (m : Nat) => xs[(((xs.size : Int) - 1) + (m : Int) * (-1)).toNat]?).toArray = xs.toList.reverse.toArray := by
  congr 1
  refine List.ext_getElem? fun i => ?_
  have e : ((List.range xs.size).filterMap fun (m : Nat) => xs[(((xs.size : Int) - 1) + (m : Int) * (-1)).toNat]?) = (List.range xs.size).map fun m => xs.getD (xs.size - 1 - m) .none := by
    refine fm_map _ fun m hm => ?_
    have hm := List.mem_range.mp hm
    have e2 : (((xs.size : Int) - 1) + (m : Int) * (-1)).toNat = xs.size - 1 - m := by omega
    rw [e2]
    rw [Array.getD_eq_getD_getElem?, Array.getElem?_eq_getElem (by omega)]; rfl
  rw [e, List.getElem?_map]
  by_cases h : i < xs.size
  · rw [List.getElem?_range h, List.getElem?_reverse (by rw [Array.length_toList]; exact h), Array.length_toList, Array.getElem?_toList]
    show some (xs.getD (xs.size - 1 - i) .none) = _
    rw [Array.getD_eq_getD_getElem?, Array.getElem?_eq_getElem (by omega)]; rfl
  · rw [List.getElem?_eq_none (by rw [List.length_range]; omega), List.getElem?_eq_none (by rw [List.length_reverse, Array.length_toList]; omega)]; rfl
section
variable {prog : Program} {w : World} {A : Around} {E : Value → Shared → Prop} {s : Shared}
theorem back_applied {sl : Addr} {vl vu vs : Value} {n : Nat} {Q : Int × Int × Nat → Shared → Prop} (hs : s.heap.IsSliceOf sl vl vu vs) (pl : IsPart vl none) (pu : IsPart vu none) (ps : IsPart vs (some (-1))) (h : Q ((n : Int) - 1, -1, n) s) : wpAny (model prog w) A (Builtin.Slice.sliceApplied (.ref sl) (pure (n : Int))) Q E s := by
  obtain ⟨os, hos, hcs, hds⟩ := id hs
  unfold Builtin.Slice.sliceApplied Builtin.Slice.sliceFields
  refine wpAny_bind (wpAny_bind (wpAny_field hos hds (x := vl) rfl (wpAny_bind (wpAny_field hos hds (x := vu) rfl (wpAny_bind (wpAny_field hos hds (x := vs) rfl (wpAny_pure ?_)))))))
  refine wpAny_bind (HT.slicePart_ ps ?_)
  show wpAny _ _ (if ((-1 : Int) == 0) = true then _ else _) _ _ s
  rw [if_neg (by decide)]
  refine wpAny_bind (HT.slicePart_ pl (wpAny_bind (HT.slicePart_ pu (wpAny_bind (wpAny_pure ?_)))))
  have e : Builtin.Slice.sliceAdjust none none (-1) (n : Int) = ((n : Int) - 1, -1) := by
    unfold Builtin.Slice.sliceAdjust
    simp
  show wpAny _ _ (match Builtin.Slice.sliceAdjust none none (-1) (n : Int) with | (lo, hi) => pure (lo, (-1 : Int), Builtin.Slice.slicePlaces lo hi (-1))) _ _ s
  rw [e]
  have e2 : Builtin.Slice.slicePlaces ((n : Int) - 1) (-1) (-1) = n := by
    unfold Builtin.Slice.slicePlaces
    simp
    split <;> omega
  show wpAny _ _ (pure ((n : Int) - 1, (-1 : Int), Builtin.Slice.slicePlaces ((n : Int) - 1) (-1) (-1))) _ _ s
  rw [e2]
  exact wpAny_pure h
theorem back_item {t sl : Addr} {items : Array Value} {vl vu vs : Value} {Q : Value → Shared → Prop} (ht : IsTup s.heap t items) (hs : s.heap.IsSliceOf sl vl vu vs) (pl : IsPart vl none) (pu : IsPart vu none) (ps : IsPart vs (some (-1)))
    (h : Q (.ref s.heap.objs.size) { s with heap := s.heap.push { cls := .type "tuple", data := .seq items.toList.reverse.toArray } }) (hsz : items.size ≤ sizeLine) : wpAny (model prog w) A (getItem (.ref t) (.ref sl)) Q E s := by
  have hok : sizeOk (.seq items.toList.reverse.toArray) := by
    show items.toList.reverse.toArray.size ≤ sizeLine
    rw [List.size_toArray, List.length_reverse, Array.length_toList]; exact hsz
  obtain ⟨os, hos, hcs, hds⟩ := id hs
  have hTs : s.TypeIs (.ref sl) "slice" := ⟨os, hos, hcs⟩
  unfold getItem
  try with_reducible refine wpAny_holding ?_
  first | refine wpAny_bind (wpAny_pure ?_) | skip
  refine wpAny_bind (wpAny_sequenceKey ht.typeIs (by decide) (wpAny_bind (wpAny_callSpecial?_slot (name := Str.ofString "__getitem__") ht.typeIs PyProof.Rows.slot_tuple_getitem (wpAny_call_entry PyProof.Rows.slot_tuple_getitem ht.typeIs PyProof.Rows.entry_tuple_getitem ?_ (PyProof.Rows.args_tuple_getitem _ _)))))
  show wpAny _ _ (Builtin.Tuple.tupleItemsOf (.ref t) >>= _) _ _ s
  refine wpAny_bind (tupleItemsOf_ ht (wpAny_bind (wpAny_typeOf hTs ?_)))
  rw [if_pos (by decide)]
  refine wpAny_bind (back_applied hs pl pu ps ?_)
  show wpAny _ _ (if (((items.size : Int) - 1) == 0 && (-1 : Int) == 1 && items.size == items.size) = true then _ else _) _ _ s
  rw [if_neg (by rw [Bool.and_eq_true, Bool.and_eq_true]; exact fun z => absurd z.1.2 (by decide)), back_pick]
  first
    | exact wpAny_bind (m := Builtin.Tuple.tupleExact _) (wpAny_newObj_type (wpAny_pure ⟨_, rfl, wpAny_pure h⟩) hok)
    | exact wpAny_bind (m := Builtin.Tuple.tupleExact _) (wpAny_newObj_type (wpAny_bind (wpAny_pure (wpAny_pure ⟨_, rfl, wpAny_pure h⟩))) hok)
    | exact wpAny_bind (wpAny_bind (m := Builtin.Tuple.tupleExact _) (wpAny_newObj_type (wpAny_pure (wpAny_pure ⟨_, rfl, wpAny_pure h⟩)) hok))
    | exact wpAny_bind (wpAny_bind (m := Builtin.Tuple.tupleExact _) (wpAny_newObj_type (wpAny_pure ⟨_, rfl, wpAny_pure h⟩) hok))
end
def tRevT (K : Kf) (te : TE) : TE := fun σ H Q => te σ H fun x H1 => ∃ a xs, x = .ref a ∧ SqT K H1 a xs ∧ ∀ p, H1 p = none → Q (.ref p) (upd H1 p (.tup xs.reverse))
section
variable {X : Cx} {B : List Addr} {H0 : Hp} {e : Expr} {te : TE} {de : DE} {k : Nat} {p1 p2 p3 pos : Pos}
theorem pe_revT (he : PE X e te) : PE X (.Subscript e (.Slice none none (some (.UnaryOp .USub (.Constant (.int 1) k p1) p2)) p3) pos) (tRevT X.K te) := by
  refine ⟨fun pins s σ H Q I h => Subscript_ (thn (he.run pins s σ H _ I h) fun v s1 ⟨x, H1, I1, r1, a, xs, ex, hx, q⟩ => ?_)⟩
  subst ex
  cases r1
  have hst : PO X (some (.UnaryOp .USub (.Constant (.int 1) k p1) p2)) (tPart (tUn (rU fun i => .int (-i)) (tC (.int 1)))) := po_some (pe_un un_neg pe_int)
  refine wpAny_Slice (thn (po_none.run pins s1 σ H1 (fun o H2 => o = none ∧ H2 = H1) I1 ⟨rfl, rfl⟩) fun vl s2 ⟨l, H2, I2, pl, el, e2⟩ => ?_)
  subst el e2
  refine thn (po_none.run pins s2 σ H2 (fun o H3 => o = none ∧ H3 = H2) I2 ⟨rfl, rfl⟩) fun vu s3 ⟨u, H3, I3, pu, eu, e3⟩ => ?_
  subst eu e3
  refine thn (hst.run pins s3 σ H3 (fun o H4 => o = some (-1) ∧ H4 = H3) I3 ⟨1, rfl, -1, rfl, rfl, rfl⟩) fun vs s4 ⟨o, H4, I4, ps, eo, e4⟩ => ?_
  subst eo e4
  have I5 : Inv X pins σ H4 { s4 with heap := s4.heap.push { cls := .type "slice", data := .fields #[vl, vu, vs] } } := I4.kept (t' := s4.toks) fun b ob q => Heap.get?_push_of_some _ q
  obtain ⟨its, r, ht, hz⟩ := I5.tuple hx
  have hlen := r.length
  show wpAny (model X.prog X.w) X.A (subscriptTail e (.Slice none none (some (.UnaryOp .USub (.Constant (.int 1) k p1) p2)) p3) (.ref a) (.ref s4.heap.objs.size)) (EP X pins σ Q) X.xe { s4 with heap := s4.heap.push { cls := .type "slice", data := .fields #[vl, vu, vs] } }
  refine tail_any (ops := [.ref a, .ref s4.heap.objs.size]) ht.typeIs (PyProof.Rows.slot_tuple_getitem.lookup) ?_ (by with_unfolding_all rfl)
  refine back_item ht (Heap.IsSliceOf.new _ vl vu vs) pl pu ps ?_ (by rw [List.size_toArray]; omega)
  refine ⟨.ref _, _, I5.laid (t' := s4.toks) (o := .tup xs.reverse) (fun b ob q => Heap.get?_push_of_some _ q) (Nat.le_refl _) ?_, rfl, q _ (I5.hok.fresh (Nat.le_refl _))⟩
  exact ⟨by rw [List.length_reverse]; exact hz, _, r.reverse, IsTup.new _ _⟩
def dRev (a : DE) : DE := fun S post => a S fun x => match x with
  | .py (.tuple ds) => post (.py (.tuple ds.reverse))
  | _ => False
theorem DtAll.reverse {K : Kf} {G : Hp} : ∀ {vs : List V} {ds : List PyData}, DtAll K G vs ds → DtAll K G vs.reverse ds.reverse
  | _, _, .nil => .nil
  | _, _, .cons h t => by
    rw [List.reverse_cons, List.reverse_cons]
    exact (DtAll.reverse t).append (.one h)
theorem pd_rev (he : PD X B H0 e de) : PD X B H0 (.Subscript e (.Slice none none (some (.UnaryOp .USub (.Constant (.int 1) k p1) p2)) p3) pos) (dRev de) := PEmono (pe_revT he) fun σ H Q ⟨G, S, post, hs, hd, hq⟩ => by
  refine ⟨G, S, _, hs, hd, fun v d G1 H1 s1 r1 p1 => ?_⟩
  split at p1
  · next ds =>
    cases r1 with
    | tup h1 h2 => exact ⟨_, _, rfl, SqT.up s1.wd.sub h1, fun p hp => hq _ _ _ _ (s1.trans (Stp.new s1.wd hp _)) (Rp.ofDt (Dt.newT (s1.wd.sub.free hp) h2.reverse)) p1⟩
  · exact p1.elim
end
end DL
/- ==== DLt ==== -/
/-! DLt: a, b, c = e, [], f -/
namespace DL
open PySem PySem.Spec PyProof.Rows L2 RZ
def dPar3L (i j l : Nat) (a c : DE) : DS := fun E S => a S fun x => c S fun z => match x, z with
  | .py x, .py z => E.nx (((S.set i (some (.py x))).set j (some (.ol []))).set l (some (.py z)))
  | .dic x, .py z => E.nx (((S.set i (some (.dic x))).set j (some (.ol []))).set l (some (.py z)))
  | _, _ => False
section
variable {X : Cx} {B : List Addr} {H0 : Hp} {da dc : DE} {pos : Pos}
theorem psd_par3L {i j l : Nat} {x y z : Str} {a c : Expr} {px py pz pt pd : Pos} {kt k2 pt2} (hc : X.calm = true) (hN : X.N.Nodup) (hi : X.N[i]? = some x) (hj : X.N[j]? = some y) (hl : X.N[l]? = some z) (hij : i ≠ j) (hil : i ≠ l) (hjl : j ≠ l)
    (hx : X.env.scope.names.lookup x = some .local) (hy : X.env.scope.names.lookup y = some .local) (hz : X.env.scope.names.lookup z = some .local) (ha : PD X B H0 a da) (hcc : PD X B H0 c dc)
    (hw : swappedStores [.Tuple [.Name x px, .Name y py, .Name z pz] kt pt] (.Tuple [a, .List [] pd, c] k2 pt2) X.env = pure (some [x, y, z])) (s1 : starEach [a, .List [] pd, c] X.env = (false, eval a X.env) :: starEach [.List [] pd, c] X.env := by rfl) (s2 : starEach [.List [] pd, c] X.env = (false, eval (.List [] pd) X.env) :: starEach [c] X.env := by rfl) (s3 : starEach [c] X.env = (false, eval c X.env) :: starEach [] X.env := by rfl)
    (hs : swapsWithSole [.Tuple [.Name x px, .Name y py, .Name z pz] kt pt] (.Tuple [a, .List [] pd, c] k2 pt2) pos.line X.env = pure false := by rfl) :
    PDS X B H0 (.Assign [.Tuple [.Name x px, .Name y py, .Name z pz] kt pt] (.Tuple [a, .List [] pd, c] k2 pt2) pos) (dPar3L i j l da dc) := PSmono (ps_par3 hc hN hi hj hl hij hil hjl hx hy hz (pa_cons ha (pa_cons (pe_lst pa_nil) (pa_cons hcc pa_nil s3) s2) s1) hw hs) fun D σ H ⟨G0, E, ⟨G, S, hs, ho, hd⟩, q1, q2, q3, q4⟩ => by
  refine ⟨G, S, _, hs, hd, fun v d G1 H1 e1 r1 p1 => ⟨sz1000 (Nat.zero_le _), fun q hq => ?_⟩⟩
  have lay := Stp.lay e1.wd hq (.lst [])
  refine ⟨G1, S, _, hs.step (e1.trans lay), p1, fun v2 d2 G2 H2 e2 r2 p2 => ⟨v, _, v2, rfl, q1 _ _ ?_⟩⟩
  have hg : G1 q = none := e1.wd.sub.free hq
  have hb := bag_ne e1.wd hq
  have k := e2.keep q _ upd_same hg hb
  have t0 := fun (hn : ¬ d.own) => (hs.step e1).set i r1 hn
  split at p2
  · have t1 := (hs.step (e1.trans (lay.trans e2))).set i (Rp.up (lay.trans e2).toOld r1) (fun z => z)
    refine ⟨G2, _, (t1.setOwn (p := q) (d := .ol []) j ⟨q, [], rfl, ⟨k.2, hb⟩, k.1, .nil⟩ ((ho.trans e1.toOld).dom e1.wd hq) fun m dm hm om ne e => ?_).set l r2 (fun z => z), ho.trans (e1.trans (lay.trans e2)).toOld, p2⟩
    obtain ⟨u, h1, h2, _⟩ := (t0 (fun z => z)).slot m dm hm
    rw [e] at h1; cases h1
    cases dm with
    | ol ds => obtain ⟨q', vs, e1, _, h3, _⟩ := h2; cases e1; rw [hq] at h3; cases h3
    | od ds => obtain ⟨q', vs, e1, _, h3, _⟩ := h2; cases e1; rw [hq] at h3; cases h3
    | _ => exact om.elim
  · have t1 := (hs.step (e1.trans (lay.trans e2))).set i (Rp.up (lay.trans e2).toOld r1) (fun z => z)
    refine ⟨G2, _, (t1.setOwn (p := q) (d := .ol []) j ⟨q, [], rfl, ⟨k.2, hb⟩, k.1, .nil⟩ ((ho.trans e1.toOld).dom e1.wd hq) fun m dm hm om ne e => ?_).set l r2 (fun z => z), ho.trans (e1.trans (lay.trans e2)).toOld, p2⟩
    obtain ⟨u, h1, h2, _⟩ := (t0 (fun z => z)).slot m dm hm
    rw [e] at h1; cases h1
    cases dm with
    | ol ds => obtain ⟨q', vs, e1, _, h3, _⟩ := h2; cases e1; rw [hq] at h3; cases h3
    | od ds => obtain ⟨q', vs, e1, _, h3, _⟩ := h2; cases e1; rw [hq] at h3; cases h3
    | _ => exact om.elim
  · exact p2.elim
end
end DL
/- ==== DLu ==== -/
/-! DLu: list.index of texts -/
namespace DL
open PySem PySem.Spec PyProof.Rows L2 RZ
def dIdxS (a b : DE) : DE := fun S post => a S fun x => ∃ zs : List Str, x.lsti = some (zs.map PyData.str) ∧ b S fun y => ∃ (z : Str) (j : Nat), y = .py (.str z) ∧ zs[j]? = some z ∧ (∀ m, m < j → zs[m]? ≠ some z) ∧ post (.py (.int j))
theorem strs_flat : ∀ zs : List Str, (zs.map V.str).all flatV = true
  | [] => rfl
  | _ :: zs => by rw [List.map_cons, List.all_cons, strs_flat zs]; rfl
section
variable {X : Cx} {B : List Addr} {H0 : Hp} {o e : Expr} {da db : DE} {apos cpos : Pos}
theorem index_lift {σ : L2.St} {H : Hp} {Q : VK} (h : lE X.K B H0 (dIdxS da db) σ H Q) : tBM X.K "list" (rIndex X.K) (lE X.K B H0 da) (tCons (lE X.K B H0 db) tNil) σ H Q := by
  obtain ⟨G, S, post, hs, hd, hq⟩ := h
  refine ⟨G, S, _, hs, hd, fun v d G1 H1 s1 r1 p1 => ?_⟩
  obtain ⟨zs, e1, p1⟩ := p1
  obtain ⟨p, vs, rfl, h1, h2⟩ := rp_lst s1.wd r1 e1
  refine ⟨Or.inl ⟨rfl, _, SqL.of h1⟩, G1, S, _, hs.step s1, p1, fun y dy G2 H2 s2 r2 p2 => ?_⟩
  obtain ⟨z, j, rfl, hj, hm, p2⟩ := p2
  cases r2
  obtain ⟨p', vs', e2, h3, h4⟩ := rp_lst s2.wd (Rp.up s2.toOld r1) e1
  cases e2
  have := DtAll.strs h4
  subst this
  refine ⟨p, zs.map V.str, .str z, j, .str z, rfl, rfl, SqL.of h3, rfl, strs_flat zs, by rw [List.getElem?_map, hj]; rfl, beq_self_eq_true z, fun m z' hm2 hz => ?_, hq _ (.py (.int _)) G2 H2 (s1.trans s2) (Rp.int _) p2⟩
  rw [List.getElem?_map] at hz
  cases e3 : zs[m]? with
  | none => rw [e3] at hz; cases hz
  | some t =>
    rw [e3] at hz
    have hz : V.str t = z' := Option.some.inj hz
    subst hz
    exact beq_false_of_ne fun q => hm m hm2 (by rw [e3, q])
theorem pd_index (ho : PD X B H0 o da) (he : PD X B H0 e db)
    (hp : ∀ {to : TE} {t : TA}, PE X o to → PA X [e] t → PE X (.Call (.Attribute o "index" apos) [e] [] cpos) (tBM X.K "list" (rIndex X.K) to t)) (hst : starEach [e] X.env = (false, eval e X.env) :: starEach [] X.env := by rfl) : PD X B H0 (.Call (.Attribute o "index" apos) [e] [] cpos) (dIdxS da db) :=
  PEmono (hp ho (pa_cons he pa_nil hst)) fun σ H Q h => index_lift h
end
end DL
/- ==== DLv ==== -/
/-! DLv: a tuple many times -/
namespace DL
open PySem PySem.Spec PyProof.Rows L2 RZ
def repD (n : Nat) (l : List PyData) : List PyData := (List.replicate n l).flatten
def fMulT : D → D → (D → Prop) → Prop := fun x y post => match x, y with
  | .py (.tuple ds), .py (.int k) => ds ≠ [] ∧ 2 ≤ k ∧ k ≤ 1000 ∧ ds.length ≤ 1000 ∧ post (.py (.tuple (repD k.toNat ds)))
  | _, _ => False
theorem DtAll.flat {K : Kf} {G : Hp} {vs : List V} {ds : List PyData} (h : DtAll K G vs ds) : ∀ n : Nat, DtAll K G (List.replicate n vs).flatten (repD n ds)
  | 0 => .nil
  | n + 1 => by
    unfold repD
    rw [List.replicate_succ, List.replicate_succ, List.flatten_cons, List.flatten_cons]
    exact h.append (DtAll.flat h n)
theorem od_mulT {K : Kf} {B : List Addr} : OpD K B (rRepT K) fMulT := fun G H x y dx dy post Q w rx ry hf hq => by
  unfold fMulT at hf
  split at hf
  · next ds k =>
    cases rx with
    | tup h1 h2 =>
      cases ry
      refine ⟨_, k, _, rfl, rfl, SqT.up w.sub h1, fun e => hf.1 ?_, hf.2.1, hf.2.2.1, by rw [h2.length]; exact hf.2.2.2.1, fun p hp => ?_⟩
      · have := h2.length
        rw [e] at this
        exact List.length_eq_zero_iff.mp this.symm
      · exact hq _ _ _ _ (Stp.new w hp _) (Rp.ofDt (Dt.newT (w.sub.free hp) (DtAll.flat h2 k.toNat))) hf.2.2.2.2
  · exact hf.elim
section
variable {X : Cx} {B : List Addr} {H0 : Hp} {a b : Expr} {da db : DE} {pos : Pos}
theorem pd_mulT (ha : PD X B H0 a da) (hb : PD X B H0 b db) : PD X B H0 (.BinOp a .Mult b pos) (dOp fMulT da db) := pd_op op_repT od_mulT ha hb
theorem pd_cal0 {x : Str} {p : Pos} {j k : Nat} {C : Ct} (c : Cal X.prog X.w X.K X.mg X.base x [] j C) (hr : Room k X.A) (hjk : j ≤ k := by decide) (hg : Gl X x := by rfl) (hdb : (x == ("__debug__" : Str)) = false := by decide) : PD X B H0 (.Call (.Name x p) [] [] pos) (dCall B C dNil) :=
  let ⟨_, _, hm, F, kp, b⟩ := c
  PEmono (pe_call0 F (hr.mono hjk) hg hm kp b.1 .nil pass0 hdb) fun σ H Q ⟨G, S, post, hs, hd, hq⟩ => by
    exact ⟨B, G, [], post, hs.wd, .nil, hd, fun v d G' H' s2 r2 p2 => hq v d G' H' s2 r2 p2⟩
end
end DL
/- ==== DLw ==== -/
/-! DLw: a comprehension that is handed back, the caller's own. -/
namespace DL
open PySem PySem.Spec PyProof.Rows L2 RZ
def dLcO (di : DI) (g : DG) (t : DT) (e : DE) (own : List Nat) : Slots → (List PyData → Prop) → Prop := fun S post => di S fun ds => ∃ Iv : Nat → List PyData → Prop, Iv 0 [] ∧
  (∀ (i : Nat) (d : PyData) (acc : List PyData), ds[i]? = some d → Iv i acc → g d (wipeS S own) fun S2 => t S2 fun b => if b = true then e S2 fun y => match y with
    | .py q => acc.length < 16000000 ∧ Iv (i + 1) (acc ++ [q])
    | _ => False
  else Iv (i + 1) acc) ∧ ∀ acc, Iv ds.length acc → post acc
def dRetLcO (di : DI) (g : DG) (t : DT) (e : DE) (own : List Nat) : DS := fun E S => dLcO di g t e own S fun acc => E.rt (.ol acc)
section
variable {X : Cx} {B : List Addr} {H0 : Hp}
theorem lcO_lift {di : DI} {g : DG} {t : DT} {e : DE} {own is : List Nat} (hio : ∀ j, j ∈ is → j ∈ own) {σ : L2.St} {H : Hp} {Q : VK} {G : Hp} {S : Slots} {post : List PyData → Prop} (hs : Sl X.K B H0 S σ G H) (hd : dLcO di g t e own S post)
    (hq : ∀ (D : Addr) (vs : List V) (acc : List PyData) (G1 H1 G' H' : Hp), Stp X.K B G H G1 H1 → H1 D = none → Stp X.K B G H G' H' → G' D = none → D ∉ B → H' D = some (.lst vs) → DtAll X.K G' vs acc → post acc → Q (.ref D) H') : tLc (lI X.K B H0 di) (lG X.K B H0 is g) (lT X.K B H0 t) (lE X.K B H0 e) own σ H Q := by
  refine ⟨G, S, _, hs, hd, fun J ds G1 H1 s1 it ⟨Iv, i0, turn, fin⟩ D hD => ?_⟩
  have hDB := bag_ne s1.wd hD
  refine ⟨fun i m H2 => m = ds.length - i ∧ i ≤ ds.length ∧ ∃ G2 acc vs, Stp X.K B G1 H1 G2 H2 ∧ G2 D = none ∧ H2 D = some (.lst vs) ∧ DtAll X.K G2 vs acc ∧ Iv i acc, ⟨ds.length, rfl, Nat.zero_le _, G1, [], [], Stp.lay s1.wd hD _, s1.wd.sub.free hD, upd_same, .nil, i0⟩, ?_⟩
  rintro i m H2 ⟨rfl, hi, G2, acc, vs, s2, gD, hD2, da, hiv⟩
  obtain ⟨t1, t2⟩ := it G2 H2 s2.wd s2.up i
  cases eq : ds[i]? with
  | none =>
    have := List.getElem?_eq_none_iff.mp eq
    have : i = ds.length := by omega
    subst this
    exact .inl ⟨t1 eq, hq D vs acc G1 H1 G2 H2 s1 hD (s1.trans s2) gD hDB hD2 da (fin acc hiv)⟩
  | some d =>
    have hlt := (List.getElem?_eq_some_iff.mp eq).1
    obtain ⟨g1, g2⟩ := t2 d eq
    refine .inr ⟨g1, fun H' => ∃ G2 acc vs, Stp X.K B G1 H1 G2 H' ∧ G2 D = none ∧ H' D = some (.lst vs) ∧ DtAll X.K G2 vs acc ∧ Iv (i + 1) acc, fun H' z => ⟨ds.length - (i + 1), by omega, rfl, hlt, z⟩, fun x H3 y => ?_⟩
    obtain ⟨G3, s3, dx⟩ := g2 x H3 y
    have st : Stp X.K B G1 H1 G3 H3 := s2.trans s3
    have k3 := s3.keep D _ hD2 gD hDB
    refine ⟨G3, wipeS S own, d, _, (hs.step (s1.trans st)).wipe own, dx, turn i d acc eq hiv, fun S' σ' hs' hl hj p => ⟨?_, G3, S', _, hs', p, fun b G4 H4 s4 p4 => ?_⟩⟩
    · have hw := wipe_eq hl hj own hio
      have : ∀ (vs : List Nat) (τ : L2.St), L2.wipe (L2.wipe τ vs) vs = L2.wipe τ vs := fun vs τ => by
        refine wipe_eq (is := vs) (L2.wipe_length τ vs) (fun j hn => ?_) vs fun _ z => z
        exact L2.wipe_out hn
      rw [hw, this]
    · have k4 := s4.keep D _ k3.1 k3.2 hDB
      cases b with
      | true =>
        rw [if_pos rfl] at p4
        refine iteT ?_
        refine ⟨G4, S', _, hs'.step s4, p4, fun v q G5 H5 s5 r5 p5 => ?_⟩
        have k5 := s5.keep D _ k4.1 k4.2 hDB
        split at p5
        · next q' =>
          refine ⟨vs, k5.1, szL (by rw [da.length]; exact p5.1), G5, acc ++ [q'], vs ++ [v], ?_, k5.2, upd_same, (DtAll.up (s3.trans (s4.trans s5)).up da).append (.one r5), p5.2⟩
          have s6 := st.trans (s4.trans s5)
          refine ⟨⟨s6.up, fun a u h h' hb => ?_⟩, ⟨fun a u h => ?_, fun b hb => ?_⟩⟩
          · have ne : a ≠ D := ne_of_none h hD
            rw [upd_ne ne]; exact s6.keep a u h h' hb
          · rw [upd_ne (ne_of_none h k5.2)]; exact s6.wd.sub _ _ h
          · have ne : b ≠ D := fun z => hDB (z ▸ hb)
            obtain ⟨y1, y2⟩ := s6.wd.bags b hb
            exact ⟨y1, y2.up (fun _ _ h => h) (upd_ne ne)⟩
        · exact p5.elim
      | false =>
        rw [if_neg Bool.false_ne_true] at p4
        refine iteF ?_
        exact ⟨G4, acc, vs, st.trans s4, k4.2, k4.1, DtAll.up (s3.trans s4).up da, p4⟩
theorem psd_retLcO {elt tg iter : Expr} {ifs : List Expr} {scope : Scope} {own : List (Str × Nat)} {is : List Nat} {pos rpos : Pos} {di : DI} {g : DG} {t : DT} {e : DE} (hc : X.calm = true) (hN : X.N.Nodup) (hi : PDI X B H0 tg iter di) (ok : BlkOk X.N X.env.scope scope own)
    (hg : ∀ (s : Shared) (H : Hp) (C : Addr) (cl : List (Str × Addr)) (fp : List Addr), PDG (X.blk s H scope (compEnvC scope cl C X.env) fp) B H0 is tg g) (ht : ∀ (s : Shared) (H : Hp) (C : Addr) (cl : List (Str × Addr)) (fp : List Addr), PTs (X.blk s H scope (compEnvC scope cl C X.env) fp) ifs (lT X.K B H0 t))
    (he : ∀ (s : Shared) (H : Hp) (C : Addr) (cl : List (Str × Addr)) (fp : List Addr), PD (X.blk s H scope (compEnvC scope cl C X.env) fp) B H0 elt e) (hio : ∀ j, j ∈ is → j ∈ own.map (·.2) := by decide) (hs : ∀ x, foldedSetIterable iter X.env x = pure x := by intro _; rfl) :
    PDS X B H0 (.Return (some (.ListComp elt [⟨tg, iter, ifs, 0⟩] scope pos)) rpos) (dRetLcO di g t e (own.map (·.2))) := PSmono (ps_ret (pe_lc hc hN hi ok hg ht he hs)) fun D σ H ⟨G0, E, ⟨G, S, hs, ho, hd⟩, q1, q2, q3, q4⟩ =>
  lcO_lift hio hs hd fun L vs acc G1 H1 G' H' s1 h1 s2 g1 hB h2 da p => q2 _ _ ⟨G', .ol acc, s2.wd, ho.trans s2.toOld, ⟨L, vs, rfl, ⟨g1, hB⟩, h2, da⟩, fun _ p e => by cases e; exact (ho.trans s1.toOld).dom s1.wd h1, p⟩
end
end DL
/- ==== DLx ==== -/
/-! DLx: list(enumerate(a list)). -/
namespace DL
open PySem PySem.Spec PyProof.Rows PySem.Calls L2 RZ
theorem look_en_len : typeLookup (.type "enumerate") "__len__" = pure none := by rw [typeLookup_type, builtinLookup_eq_fast]; kernel_rfl
theorem look_en_hint : typeLookup (.type "enumerate") "__length_hint__" = pure none := by rw [typeLookup_type, builtinLookup_eq_fast]; kernel_rfl
section
variable {P : Program} {w : World} {A : Around} {E : Value → Shared → Prop} {s : Shared}
theorem en_hint {e : Addr} (hT : s.TypeIs (.ref e) "enumerate") {Q : Bool → Shared → Prop} (h : Q true s) : wpAny (model P w) A (Builtin.List.listLengthHint (.ref e)) Q E s := by
  unfold Builtin.List.listLengthHint
  refine wpAny_bind (wpAny_specialOf hT look_en_len ?_)
  dsimp only
  refine wpAny_bind ?_
  exact wpAny_specialOf hT look_en_hint (wpAny_pure h)
/-- an enumerate that has told so many -/
def EnSt (h : Heap) (e it l S : Addr) (i : Nat) : Prop := (i = 0 ∧ ∃ old, PySem.IsEnum h e it ((0 : Nat) : Int) old) ∨ ∃ old T f oT, PySem.IsEnumHeld h e it (i : Int) old T f ∧ h.get? T = some oT ∧ T ≠ e ∧ T ≠ it ∧ T ≠ S
theorem EnSt.keep {h h' : Heap} {e it l S : Addr} {i : Nat} (x : EnSt h e it l S i) (k : ∀ b o, b ≠ S → h.get? b = some o → h'.get? b = some o) (heS : e ≠ S) : EnSt h' e it l S i := by
  rcases x with ⟨z, old, y⟩ | ⟨old, T, f, oT, y, hT, n1, n2, n3⟩
  · exact .inl ⟨z, old, k e _ heS y⟩
  · exact .inr ⟨old, T, f, oT, k e _ heS y, k T _ n3 hT, n1, n2, n3⟩
/-- one is told -/
theorem en_item {e it l S : Addr} {i : Nat} {items : Array Value} {x : Value} {Q : Option Value → Shared → Prop} (st : EnSt s.heap e it l S i) (hl : s.heap.IsList l items) (hit : s.heap.IsListIter it l i) (hx : items[i]? = some x) (hne : e ≠ it) (hS : S < s.heap.objs.size)
    (hQ : ∀ h', EnSt h' e it l S (i + 1) → h'.IsListIter it l (i + 1) → h'.get? s.heap.objs.size = some { cls := .type "tuple", data := .seq #[.int i s.toks, x] } → h'.objs.size = s.heap.objs.size + 1 →
      (∀ b o, b ≠ e → b ≠ it → s.heap.get? b = some o → h'.get? b = some o) → Q (some (.ref s.heap.objs.size)) { s with heap := h', toks := s.toks + 1 }) : wpAny (model P w) A (pyNext (.ref e)) Q E s := by
  have lit : it < s.heap.objs.size := by obtain ⟨o, z, _⟩ := hit; exact Heap.lt_size z
  have cast : ((i : Int) + 1) = ((i + 1 : Nat) : Int) := by push_cast; rfl
  rcases st with ⟨rfl, old, y⟩ | ⟨old, T, f, oT, y, hT, n1, n2, n3⟩
  · refine wpAny_pyNext_enum_item y hit hl hx hne fun h' a1 a2 a3 a4 a5 => hQ h' (.inr ⟨x, s.heap.objs.size, false, _, ?_, a3, Nat.ne_of_gt (Heap.lt_size y), Nat.ne_of_gt lit, Nat.ne_of_gt hS⟩) a2 a3 a4 a5
    rw [cast] at a1; exact a1
  · refine PySem.wpAny_pyNext_enum_item_held y hT n1 n2 hit hl hx hne fun h' a1 a2 a3 a4 a5 => hQ h' (.inr ⟨old, T, true, oT, ?_, a5 T oT n1 n2 hT, n1, n2, n3⟩) a2 a3 a4 a5
    rw [cast] at a1; exact a1
theorem en_done {e it l S : Addr} {items : Array Value} {i : Nat} {Q : Option Value → Shared → Prop} (hh : A.handled = none) (st : EnSt s.heap e it l S i) (hl : s.heap.IsList l items) (hit : s.heap.IsListIter it l i) (hx : items[i]? = none)
    (hQ : ∀ h', Heap.ExtBut it s.heap h' → Q none { s with heap := h' }) : wpAny (model P w) A (pyNext (.ref e)) Q E s := by
  rcases st with ⟨rfl, old, y⟩ | ⟨old, T, f, oT, y, _, _, _, _⟩
  · exact wpAny_pyNext_enum_end hh y hit hl hx hQ
  · exact PySem.wpAny_pyNext_enum_end_held hh y hit hl hx hQ
/-- the pairs told so far -/
structure EnG (items : Array Value) (N : Nat) (h : Heap) (as : List Addr) : Prop where
  rise : as.Pairwise (· < ·)
  above : ∀ a ∈ as, N ≤ a
  pairs : ∀ (j : Nat) (a : Addr), as[j]? = some a → ∃ t x, items[j]? = some x ∧ h.get? a = some { cls := .type "tuple", data := .seq #[.int (j : Int) t, x] }
theorem en_loop {R : Result → Shared → Prop} {S e it l N : Addr} {items : Array Value} (hh : A.handled = none) (hS : S < N) (he : e < N) (hi : it < N) (hlN : l < N) (n1 : S ≠ e) (n2 : S ≠ it) (n3 : e ≠ it) (n4 : l ≠ S) (n5 : l ≠ e) (n6 : l ≠ it) (hn : items.size ≤ sizeLine) (res : Value) {h₁ : Heap}
    (hR : ∀ (h' : Heap) (tk : Nat) (acc : Array Value) (c : Nat) (as : List Addr), (∀ b o, b ≠ S → b ≠ e → b ≠ it → h₁.get? b = some o → h'.get? b = some o) → h'.get? S = some { cls := .type "list", dict := none, data := .seq acc c, slots := #[] } → as.length = items.size → EnG items N h' as → acc.toList = as.map Value.ref → R (.ok (.ret res)) { s with heap := h', toks := tk }) :
    ∀ (k i : Nat) (h : Heap) (tk c : Nat) (acc : Array Value) (as : List Addr), items.size - i = k → i ≤ items.size → EnSt h e it l S i → h.IsList l items → h.IsListIter it l i → (∀ b o, b ≠ S → b ≠ e → b ≠ it → h₁.get? b = some o → h.get? b = some o) →
      h.get? S = some { cls := .type "list", dict := none, data := .seq acc c, slots := #[] } → acc.toList = as.map Value.ref → as.length = i → EnG items N h as → N ≤ h.objs.size →
      codeAny (model P w) A (.builtin "list.extend.loop" ⟨[.ref S, .ref e, res], []⟩) R { s with heap := h, toks := tk } := by
  intro k
  induction k with
  | zero =>
    intro i h tk c acc as hk hile st hl hit keep hSo hacc hal G hN
    have hin : i = items.size := by omega
    subst hin
    refine codeAny_builtin PySem.F.entry_extend_loop ?_
    rw [Around.under_plainId PySem.F.plain_extend_loop _]
    change wpAny _ A.in1 (pyNext (.ref e) >>= _) _ _ _
    refine wpAny_bind (en_done (s := { s with heap := h, toks := tk }) (A := A.in1) hh st hl hit (by simp) fun h' ex => ?_)
    refine wpAny_pure (hR h' tk acc c as (fun b o z1 z2 z3 q => ex b o z3 (keep b o z1 z2 z3 q)) (ex S _ n2 hSo) hal ⟨G.rise, G.above, fun j a hj => ?_⟩ hacc)
    obtain ⟨t, x, q1, q2⟩ := G.pairs j a hj
    have := G.above a (List.mem_of_getElem? hj)
    exact ⟨t, x, q1, ex a _ (Nat.ne_of_gt (Nat.lt_of_lt_of_le hi this)) q2⟩
  | succ k ih =>
    intro i h tk c acc as hk hile st hl hit keep hSo hacc hal G hN
    have hlt : i < items.size := by omega
    have hx : items[i]? = some items[i] := Array.getElem?_eq_getElem hlt
    refine codeAny_builtin PySem.F.entry_extend_loop ?_
    rw [Around.under_plainId PySem.F.plain_extend_loop _]
    change wpAny _ A.in1 (pyNext (.ref e) >>= _) _ _ _
    refine wpAny_bind (en_item (s := { s with heap := h, toks := tk }) (S := S) st hl hit hx n3 (Heap.lt_size hSo) fun h' st' hit' ht hz kp => ?_)
    dsimp only at ht hz kp ⊢
    have hS2 := kp S _ n1 n2 hSo
    have hSl : S < h.objs.size := Heap.lt_size hSo
    have up : ∀ b o, b ≠ S → h'.get? b = some o → (h'.update S (Obj.mapSeq (·.push (Value.ref h.objs.size)))).get? b = some o := fun b o hb q => (Heap.get?_update_other _ _ (Ne.symm hb)).trans q
    have hsz : acc.size = i := by rw [← Array.length_toList, hacc, List.length_map, hal]
    have new : h.objs.size ≠ S := Nat.ne_of_gt hSl
    change wpAny _ A.in1 (updateSeq S (·.push (Value.ref h.objs.size)) >>= _) _ _ _
    refine wpAny_bind ?_
    refine wpAny_updateSeq hS2 rfl (wpAny_pure ⟨plainId_quiet PySem.F.plain_extend_loop _, ih (i + 1) _ (tk + 1) _ (acc.push (Value.ref h.objs.size)) (as ++ [h.objs.size]) (by omega) hlt (st'.keep up (Ne.symm n1)) ?_ ?_ (fun b o z1 z2 z3 q => up b o z1 (kp b o z2 z3 (keep b o z1 z2 z3 q))) (Heap.get?_update_self _ hS2 rfl) (by rw [Array.toList_push, hacc, List.map_append]; rfl) (by rw [List.length_append, hal]; rfl) ⟨?_, ?_, ?_⟩ ?_⟩) (by rw [hsz]; omega) (by show (acc.push (Value.ref h.objs.size)).size ≤ sizeLine + 1; rw [Array.size_push, hsz]; omega)
    · obtain ⟨o, q1, q2⟩ := hl
      exact ⟨o, up l o n4 (kp l o n5 n6 q1), q2⟩
    · obtain ⟨o, q1, q2⟩ := hit'
      exact ⟨o, up it o (Ne.symm n2) q1, q2⟩
    · refine List.pairwise_append.mpr ⟨G.rise, List.pairwise_singleton _ _, fun a ha b hb => ?_⟩
      rw [List.mem_singleton.mp hb]
      obtain ⟨j, hj⟩ := List.getElem?_of_mem ha
      obtain ⟨_, _, _, q⟩ := G.pairs j a hj
      exact Heap.lt_size q
    · intro a ha
      rcases List.mem_append.mp ha with z | z
      · exact G.above a z
      · rw [List.mem_singleton.mp z]; exact hN
    · intro j a hj
      by_cases hjl : j < as.length
      · rw [List.getElem?_append_left hjl] at hj
        obtain ⟨t, x, q1, q2⟩ := G.pairs j a hj
        have := G.above a (List.mem_of_getElem? hj)
        exact ⟨t, x, q1, up a _ (Nat.ne_of_gt (Nat.lt_of_lt_of_le hS this)) (kp a _ (Nat.ne_of_gt (Nat.lt_of_lt_of_le he this)) (Nat.ne_of_gt (Nat.lt_of_lt_of_le hi this)) q2)⟩
      · rw [List.getElem?_append_right (by omega)] at hj
        have hj0 : j - as.length = 0 := by
          have := (List.getElem?_eq_some_iff.mp hj).1
          rw [List.length_singleton] at this; omega
        rw [hj0] at hj
        cases hj
        have hji : j = i := by omega
        subst hji
        exact ⟨tk, items[j], hx, up _ _ new ht⟩
    · exact Nat.le_trans hN (Nat.le_of_lt (Heap.lt_size (up _ _ new ht)))
theorem en_extend {R : Result → Shared → Prop} {S e it l : Addr} {items : Array Value} {c₀ : Nat} (hh : A.handled = none) (ie : PySem.IsEnum s.heap e it ((0 : Nat) : Int) .none) (hit : s.heap.IsListIter it l 0) (hl : s.heap.IsList l items) (hS : s.heap.get? S = some { cls := .type "list", data := .seq #[] c₀ }) (n1 : S ≠ e) (n2 : S ≠ it) (n3 : e ≠ it) (n4 : l ≠ S) (n5 : l ≠ e) (n6 : l ≠ it) (hn : items.size ≤ sizeLine) (res : Value)
    (hR : ∀ (h' : Heap) (tk : Nat) (acc : Array Value) (c : Nat) (as : List Addr), (∀ b o, b ≠ S → b ≠ e → b ≠ it → s.heap.get? b = some o → h'.get? b = some o) → h'.get? S = some { cls := .type "list", dict := none, data := .seq acc c, slots := #[] } → as.length = items.size → EnG items s.heap.objs.size h' as → acc.toList = as.map Value.ref → R (.ok (.ret res)) { s with heap := h', toks := tk }) :
    wpAny (model P w) A.in1 (Builtin.List.listExtendWith (.ref S) (.ref e) res)
      (fun fin s' => match fin with | .done f => R (.ok f) s' | .again c' => c'.quiet = true ∧ codeAny (model P w) A c' R s') (fun e s' => R (.error e) s') s := by
  have lS := Heap.lt_size hS
  have le := Heap.lt_size ie
  have li : it < s.heap.objs.size := by obtain ⟨o, z, _⟩ := hit; exact Heap.lt_size z
  have ll : l < s.heap.objs.size := by obtain ⟨o, z, _⟩ := hl; exact Heap.lt_size z
  have hT : s.TypeIs (.ref e) "enumerate" := ⟨_, ie, rfl⟩
  unfold Builtin.List.listExtendWith
  refine wpAny_bind (wpAny_typeOf (T := "enumerate") hT ?_)
  have q1 : Builtin.List.listSameRef (.ref S) (.ref e) = false := by simp [Builtin.List.listSameRef, n1]
  have q2 : (Value.type "enumerate" == Value.type "list") = false := by decide
  have q3 : (Value.type "enumerate" == Value.type "tuple") = false := by decide
  simp only [q1, q2, q3, Bool.or_false, Bool.false_eq_true, if_false]
  refine wpAny_bind (wpAny_pyIter_enum ie ?_)
  refine wpAny_bind (wpAny_holding (en_hint hT ?_))
  simp only [Bool.true_or, if_true]
  refine wpAny_bind (wpAny_rule ?_)
  refine wpAny_bind ?_
  change wpAny _ _ (updateSeq S (·.push .none) >>= fun _ => updateSeq S (·.pop)) _ _ _
  refine wpAny_bind (wpAny_updateSeq hS rfl ?_)
  have hS1 := Heap.get?_update_self (Obj.mapSeq (·.push Value.none)) hS rfl
  refine wpAny_updateSeq (hz := by seq_fits) hS1 rfl ?_
  have hS2 := Heap.get?_update_self (Obj.mapSeq (·.pop)) hS1 rfl
  have oth : ∀ b o, b ≠ S → s.heap.get? b = some o → ((s.heap.update S (Obj.mapSeq (·.push Value.none))).update S (Obj.mapSeq (·.pop))).get? b = some o := fun b o hb q => (Heap.get?_update_other _ _ (Ne.symm hb)).trans ((Heap.get?_update_other _ _ (Ne.symm hb)).trans q)
  refine wpAny_pure ⟨plainId_quiet PySem.F.plain_extend_loop _, ?_⟩
  refine en_loop (s := s) (h₁ := s.heap) (N := s.heap.objs.size) hh lS le li ll n1 n2 n3 n4 n5 n6 hn res (fun h' tk acc c as a1 a2 a3 a4 a5 => hR h' tk acc c as a1 a2 a3 a4 a5) items.size 0 _ s.toks _ #[] [] (Nat.sub_zero _) (Nat.zero_le _) (.inl ⟨rfl, _, oth e _ (Ne.symm n1) ie⟩) ?_ ?_ (fun b o z1 _ _ q => oth b o z1 q) hS2 rfl rfl ⟨List.Pairwise.nil, (fun a ha => by cases ha), fun j a hj => by simp at hj⟩ ?_
  · obtain ⟨o, z1, z2⟩ := hl
    exact ⟨o, oth l o n4 z1, z2⟩
  · obtain ⟨o, z1, z2⟩ := hit
    exact ⟨o, oth it o (Ne.symm n2) z1, z2⟩
  · exact Nat.le_of_eq (Eq.trans (Heap.SameBut.update (h := s.heap) ..).1.symm (Heap.SameBut.update ..).1.symm)
theorem en_call {Q : Value → Shared → Prop} {e it l : Addr} {items : Array Value} (hh : A.handled = none) (ie : PySem.IsEnum s.heap e it ((0 : Nat) : Int) .none) (hit : s.heap.IsListIter it l 0) (hl : s.heap.IsList l items) (n3 : e ≠ it) (n5 : l ≠ e) (n6 : l ≠ it) (hn : items.size ≤ sizeLine)
    (hQ : ∀ (h' : Heap) (tk : Nat) (acc : Array Value) (c : Nat) (as : List Addr), (∀ b o, b ≠ e → b ≠ it → s.heap.get? b = some o → h'.get? b = some o) → h'.get? s.heap.objs.size = some { cls := .type "list", dict := none, data := .seq acc c, slots := #[] } → as.length = items.size → EnG items (s.heap.objs.size + 1) h' as → acc.toList = as.map Value.ref → Q (.ref s.heap.objs.size) { s with heap := h', toks := tk }) :
    wpAny (model P w) A (call (.type "list") [.ref e]) Q E s := by
  refine callType_codes (Q₁ := fun obj s₁ => obj = .ref s.heap.objs.size ∧ s₁ = { s with heap := s.heap.push { cls := .type "list", data := .seq #[] } }) PySem.F.called_list (PySem.F.typeCall_list_1 _) PySem.F.entry_list_init (code_list_new _ ⟨rfl, rfl⟩) fun obj s₁ h₁ => ?_
  obtain ⟨rfl, rfl⟩ := h₁
  have hS : (s.heap.push { cls := .type "list", data := .seq #[] }).get? s.heap.objs.size = some { cls := .type "list", data := .seq #[] } := Heap.get?_push_size _ rfl
  have le := Heap.lt_size ie
  have li : it < s.heap.objs.size := by obtain ⟨o, z, _⟩ := hit; exact Heap.lt_size z
  have ll : l < s.heap.objs.size := by obtain ⟨o, z, _⟩ := hl; exact Heap.lt_size z
  refine ⟨⟨_, hS, rfl⟩, PySem.F.args_list_init_2 _ _, ?_⟩
  change wpAny _ _ (Builtin.List.listItems (.ref s.heap.objs.size) >>= fun old => Builtin.List.listUpdate (.ref s.heap.objs.size) (fun _ => #[]) >>= fun _ => letGo old.toList.reverse >>= fun _ => Builtin.List.listExtendWith (.ref s.heap.objs.size) (.ref e) .none) _ _ _
  refine wpAny_bind ?_
  unfold Builtin.List.listItems
  refine wpAny_bind (wpAny_seqItems hS rfl (wpAny_pure ?_))
  change wpAny _ _ (updateSeq s.heap.objs.size (fun _ => #[]) >>= fun _ => letGo (#[] : Array Value).toList.reverse >>= fun _ => Builtin.List.listExtendWith (.ref s.heap.objs.size) (.ref e) .none) _ _ _
  refine wpAny_bind (wpAny_updateSeq hS rfl ?_)
  have hS2 := Heap.get?_update_self (Obj.mapSeq (fun _ => (#[] : Array Value))) hS rfl
  have oth : ∀ b o, b ≠ s.heap.objs.size → s.heap.get? b = some o → ((s.heap.push { cls := .type "list", data := .seq #[] }).update s.heap.objs.size (Obj.mapSeq (fun _ => (#[] : Array Value)))).get? b = some o := fun b o hb q => (Heap.get?_update_other _ _ (Ne.symm hb)).trans (Heap.get?_push_of_some _ q)
  refine wpAny_bind (wpAny_letGo ?_)
  refine en_extend (A := A.in1) hh (oth e _ (Nat.ne_of_lt le) ie) ?_ ?_ hS2 (Nat.ne_of_gt le) (Nat.ne_of_gt li) n3 (Nat.ne_of_lt ll) n5 n6 hn .none fun h' tk acc c as a1 a2 a3 a4 a5 => ⟨rfl, hQ h' tk acc c as (fun b o z1 z2 q => a1 b o (Nat.ne_of_lt (Heap.lt_size q)) z1 z2 (oth b o (Nat.ne_of_lt (Heap.lt_size q)) q)) a2 a3 ⟨a4.rise, fun a ha => Nat.le_trans ?_ (a4.above a ha), a4.pairs⟩ a5⟩
  · obtain ⟨o, z1, z2⟩ := hit
    exact ⟨o, oth it o (Nat.ne_of_lt li) z1, z2⟩
  · obtain ⟨o, z1, z2⟩ := hl
    exact ⟨o, oth l o (Nat.ne_of_lt ll) z1, z2⟩
  · rw [(Heap.SameBut.update ..).1, Heap.size_push]
    exact Nat.le_refl _
end
def numb : Nat → List V → List (Key × V)
  | _, [] => []
  | i, x :: xs => (.inl (i : Int), x) :: numb (i + 1) xs
def numbV : Nat → List Value → List (Key × Value)
  | _, [] => []
  | i, x :: xs => (.inl (i : Int), x) :: numbV (i + 1) xs
def numP : Nat → List PyData → List PyData
  | _, [] => []
  | i, x :: xs => .tuple [.int (i : Int), x] :: numP (i + 1) xs
theorem numb_kv : ∀ {xs : List V} {us : List Value} (i : Nat), Vals xs us → KV (numb i xs) (numbV i us)
  | _, _, _, .nil => .nil
  | _, _, i, .cons r t => .cons ⟨rfl, r⟩ (numb_kv (i + 1) t)
theorem numbV_len : ∀ (us : List Value) (i : Nat), (numbV i us).length = us.length
  | [], _ => rfl
  | _ :: us, i => by show (numbV (i + 1) us).length + 1 = us.length + 1; rw [numbV_len us]
theorem numb_len : ∀ (us : List V) (i : Nat), (numb i us).length = us.length
  | [], _ => rfl
  | _ :: us, i => by show (numb (i + 1) us).length + 1 = us.length + 1; rw [numb_len us]
theorem numbV_at : ∀ (us : List Value) (i j : Nat) (x : Value), us[j]? = some x → (numbV i us)[j]? = some (.inl ((i + j : Nat) : Int), x)
  | [], _, _, _, h => by simp at h
  | u :: us, i, 0, x, h => by cases h; rfl
  | u :: us, i, j + 1, x, h => by
    have := numbV_at us (i + 1) j x h
    rw [show i + 1 + j = i + (j + 1) by omega] at this
    exact this
def tLstEn (K : Kf) (te : TE) : TE := fun σ H Q => te σ H fun x H1 => ∃ (l : Addr) (xs : List V), x = .ref l ∧ SqL K H1 l xs ∧
  ∀ (H' : Hp) (p : Addr) (ts : List Addr), (∀ b o, H1 b = some o → H' b = some o) → H1 p = none → (∀ t ∈ ts, H1 t = none) → p ∉ ts → H' p = some (.lst (ts.map V.ref)) → Paired (fun (t : Addr) (q : Key × V) => H' t = some (.tup [kV q.1, q.2])) ts (numb 0 xs) → Q (.ref p) H'
section
variable {X : Cx} {a : Expr} {ta : TE} {p p2 q pos : Pos}
theorem pe_lstEn (hc : X.calm = true) (hg : Gl X "list") (hm : X.mg "list" = none) (hg2 : Gl X "enumerate") (hm2 : X.mg "enumerate" = none) (ha : PE X a ta)
    (na : starEach [a] X.env = (false, eval a X.env) :: starEach [] X.env := by rfl) (nr : starEach [.Call (.Name "enumerate" p2) [a] [] q] X.env = (false, eval (.Call (.Name "enumerate" p2) [a] [] q) X.env) :: starEach [] X.env := by rfl) : PE X (.Call (.Name "list" p) [.Call (.Name "enumerate" p2) [a] [] q] [] pos) (tLstEn X.K ta) := by
  refine ⟨fun pins s σ H Q I h => ?_⟩
  refine Call_ (ld_blt I hg hm boot_list ?_)
  refine PyProof.Rows.callWith_type1 (PyProof.Rows.args_cons ?_ nr) nr rfl
  refine Call_ (ld_blt I hg2 hm2 boot_enumerate ?_)
  refine PyProof.Rows.callWith_type1 (PyProof.Rows.args_cons (thn (ha.run pins s σ H _ I h) fun v s1 ⟨x, H1, I1, r1, q1⟩ => PyProof.Rows.args_nil ?_) na) na rfl
  obtain ⟨l, xs, rfl, hq, q1⟩ := q1
  cases r1
  obtain ⟨its, r, pl, hz⟩ := I1.list hq
  have ll : l < s1.heap.objs.size := by obtain ⟨o, z, _⟩ := pl.isList; exact Heap.lt_size z
  refine call_enumerate_list pl.isList fun h1 he hit hsz hk => ?_
  refine PyProof.Rows.args_nil ?_
  have hl1 : h1.IsList l its.toArray := by obtain ⟨o, z1, z2⟩ := pl.isList; exact ⟨o, hk l o z1, z2⟩
  have hlen := r.length
  refine en_call (s := { s1 with heap := h1 }) (I1.ok.hd hc) he hit hl1 (Nat.succ_ne_self _) (Nat.ne_of_lt (Nat.lt_succ_of_lt ll)) (Nat.ne_of_lt ll) ?_ fun h' tk acc c as a1 a2 a3 a4 a5 => ?_
  · rw [List.size_toArray, ← hlen]; exact hz
  dsimp only at a1 a2 a3 a4
  -- the state before the list, with the two that were made for it given up
  let fr : Obj := { cls := .none, data := .freed }
  have mz : ((s1.heap.push fr).push fr).objs.size = h1.objs.size := by rw [Heap.size_push, Heap.size_push, hsz]
  have mid : ∀ b o, ((s1.heap.push fr).push fr).get? b = some o → s1.heap.get? b = some o := fun b o z => by
    by_cases z1 : b < s1.heap.objs.size
    · have e1 : ((s1.heap.push fr).push fr).get? b = s1.heap.get? b := by
        unfold Heap.get? Heap.push
        dsimp only
        rw [Array.getElem?_push, Array.getElem?_push, if_neg (by rw [Array.size_push]; exact Nat.ne_of_lt (Nat.lt_succ_of_lt z1)), if_neg (Nat.ne_of_lt z1)]
      rw [e1] at z; exact z
    · exfalso
      have z2 := Heap.lt_size z
      rw [Heap.size_push, Heap.size_push] at z2
      unfold Heap.get? Heap.push at z
      dsimp only at z
      rw [Array.getElem?_push, Array.getElem?_push] at z
      by_cases c1 : b = (s1.heap.objs.push fr).size
      · rw [if_pos c1] at z; cases z
      · rw [if_neg c1] at z
        by_cases c2 : b = s1.heap.objs.size
        · rw [if_pos c2] at z; cases z
        · rw [Array.size_push] at c1
          exact Nat.lt_irrefl _ (Nat.lt_of_lt_of_le z2 (Nat.succ_le_of_lt (Nat.lt_of_le_of_ne (Nat.succ_le_of_lt (Nat.lt_of_le_of_ne (Nat.not_lt.mp z1) (Ne.symm c2))) (Ne.symm c1))))
  have I2 : L2.Inv X pins σ H1 { s1 with heap := (s1.heap.push fr).push fr } := I1.kept (t' := s1.toks) fun b ob q => Heap.get?_push_of_some _ (Heap.get?_push_of_some _ q)
  have hG : PySem.W.KdxG (mixKind X.prog X.w) (numbV 0 its) ((s1.heap.push fr).push fr).objs.size h' as := ⟨a4.rise, fun t ht => by
    have := a4.above t ht
    rw [mz]; exact this, fun j t hj => by
    obtain ⟨tk', x, z1, z2⟩ := a4.pairs j t hj
    have z1 : its[j]? = some x := by rw [List.getElem?_toArray] at z1; exact z1
    have := numbV_at its 0 j x z1
    rw [Nat.zero_add] at this
    exact ⟨.int (j : Int) tk', .inl (j : Int), x, this, by simp [mixKind, keyIs, Value.isInt], z2⟩⟩
  obtain ⟨H', k1, k2, k3, k4, k5, k6, J⟩ := LiI.items_laid (tk := tk) (kvs := numb 0 xs) (acc := acc) (c := c) I2 (by rw [numb_len]; exact hz) (numb_kv 0 r) (fun b o z => a1 b o (Nat.ne_of_lt (Nat.lt_succ_of_lt (Heap.lt_size (mid b o z)))) (Nat.ne_of_lt (Heap.lt_size (mid b o z))) (hk b o (mid b o z))) (by rw [mz]; exact a2) (by rw [numbV_len, a3, List.size_toArray]) hG a5
  dsimp only at k2 k4 k5
  rw [mz] at k2 k4 k5
  exact ⟨.ref _, H', J, rfl, q1 H' _ as k1 k2 k3 k4 k5 k6⟩
end
def dLstEn (de : DE) : DE := fun S post => de S fun x => match x with
  | .py (.list ds) => post (.py (.list (numP 0 ds)))
  | _ => False
theorem paired_mem {α β : Type} {F F' : α → β → Prop} : ∀ {as : List α} {bs : List β}, Paired F as bs → (∀ a ∈ as, ∀ b, F a b → F' a b) → Paired F' as bs
  | _, _, .nil, _ => .nil
  | _, _, .cons h t, k => .cons (k _ (List.mem_cons_self ..) _ h) (paired_mem t fun a ha b z => k a (List.mem_cons_of_mem _ ha) b z)
theorem num_dt {K : Kf} {G G' : Hp} (up : Same G G') : ∀ {vs : List V} {ds : List PyData} {ts : List Addr} {i : Nat}, DtAll K G vs ds → Paired (fun (t : Addr) (q : Key × V) => G' t = some (.tup [kV q.1, q.2])) ts (numb i vs) → DtAll K G' (ts.map V.ref) (numP i ds)
  | _, _, _, _, .nil, .nil => .nil
  | _, _, _, i, .cons h t, .cons r p => .cons (.tup (SqT.of r) (.cons (.int (i : Int)) (.cons (Dt.up up h) .nil))) (num_dt up t p)
section
variable {X : Cx} {B : List Addr} {H0 : Hp} {e : Expr} {de : DE} {p p2 q pos : Pos}
theorem pd_lstEn (T : Bl X.mg) (hc : X.calm = true) (he : PD X B H0 e de) (hg : Gl X "list" := by rfl) (hg2 : Gl X "enumerate" := by rfl)
    (na : starEach [e] X.env = (false, eval e X.env) :: starEach [] X.env := by rfl) (nr : starEach [.Call (.Name "enumerate" p2) [e] [] q] X.env = (false, eval (.Call (.Name "enumerate" p2) [e] [] q) X.env) :: starEach [] X.env := by rfl) : PD X B H0 (.Call (.Name "list" p) [.Call (.Name "enumerate" p2) [e] [] q] [] pos) (dLstEn de) :=
  PEmono (pe_lstEn hc hg T.list hg2 T.enumerate he na nr) fun σ H Q ⟨G, S, post, hs, hd, hq⟩ => by
  refine ⟨G, S, _, hs, hd, fun v d G1 H1 s1 r1 p1 => ?_⟩
  split at p1
  · next ds =>
    cases r1 with
    | lst h1 h2 =>
      rename_i l vs
      refine ⟨l, vs, rfl, SqL.of (s1.wd.sub _ _ h1), fun H' pn ts k1 k2 k3 k4 k5 k6 => ?_⟩
      classical
      have old : ∀ b o, H1 b = some o → ¬ (b = pn ∨ b ∈ ts) := fun b o z y => by
        rcases y with y | y
        · subst y; rw [k2] at z; cases z
        · rw [k3 b y] at z; cases z
      let G' : Hp := fun b => if b = pn ∨ b ∈ ts then H' b else G1 b
      have gold : ∀ b o, H1 b = some o → G' b = G1 b := fun b o z => if_neg (old b o z)
      have gnew : ∀ b, b = pn ∨ b ∈ ts → G' b = H' b := fun b z => if_pos z
      have up : Same G1 G' := fun b o z => by rw [gold b o (s1.wd.sub _ _ z)]; exact z
      have st : Stp X.K B G1 H1 G' H' := by
        refine ⟨⟨up, fun a u z z' zb => ⟨k1 a u z, by rw [gold a u z]; exact z'⟩⟩, ⟨fun a u z => ?_, fun b hb => ?_⟩⟩
        · by_cases y : a = pn ∨ a ∈ ts
          · rw [gnew a y] at z; exact z
          · have : G' a = G1 a := if_neg y
            rw [this] at z; exact k1 a u (s1.wd.sub _ _ z)
        · obtain ⟨y1, y2⟩ := s1.wd.bags b hb
          obtain ⟨o, ho⟩ := y2.some
          exact ⟨by rw [gold b o ho]; exact y1, y2.up up (by rw [ho]; exact k1 b o ho)⟩
      refine hq _ _ G' H' (s1.trans st) (Rp.ofDt (.lst (by rw [gnew pn (.inl rfl)]; exact k5) (num_dt up h2 ?_))) p1
      exact paired_mem k6 fun t ht q z => by rw [gnew t (.inr ht)]; exact z
  · exact p1.elim
end
end DL
/- ==== DLy ==== -/
/-! DLy: tuple(range(a, b, c)); sorted(set(a list of ints)). -/
namespace DL
open PySem PySem.Spec PyProof.Rows PySem.Calls L2 RZ
/-- how many of a, a + c, .. lie ahead of b -/
def stepN (a b c : Int) : Nat := if a < b then ((b - a - 1) / c + 1).toNat else 0
def stepV (a b c : Int) : List V := (List.range (stepN a b c)).map fun i => V.int (a + (i : Nat) * c)
theorem stepN_size {a b c : Int} (hc : 0 < c) : Builtin.Range.rangeSize a b c = ((stepN a b c : Nat) : Int) := by
  unfold Builtin.Range.rangeSize stepN
  rw [if_pos hc]
  split
  · have := Int.ediv_nonneg (show 0 ≤ b - a - 1 by omega) (show 0 ≤ c by omega)
    omega
  · rfl
theorem stepN_le {a b c : Int} (hc : 0 < c) : stepN a b c ≤ (b - a).toNat := by
  unfold stepN
  split
  · have := Int.ediv_le_self (b := c) (show 0 ≤ b - a - 1 by omega)
    omega
  · exact Nat.zero_le _
theorem step_vals {a b c : Int} {acc : Array Value} (h : ItemsOf (fun i v => ∃ t, v = .int (a + i * c) t) acc (stepN a b c)) : Vals (stepV a b c) acc.toList := by
  have e : acc.toList.length = stepN a b c := by rw [Array.length_toList]; exact h.1
  unfold stepV
  rw [← e]
  exact vals_of_get acc.toList _ fun j u hj => h.2 j u (by rw [← hj, Array.getElem?_toList])
def tTupRg3 (ta tb tc : TE) : TE := fun σ H Q => ta σ H fun x H1 => tb σ H1 fun y H2 => tc σ H2 fun z H3 => ∃ i j k, x = .int i ∧ y = .int j ∧ z = .int k ∧ 0 < k ∧ k < 1000000 ∧ 0 ≤ i ∧ i < 1000000 ∧ 0 ≤ j ∧ j < 1000000 ∧ ∀ q, H3 q = none → Q (.ref q) (upd H3 q (.tup (stepV i j k)))
section
variable {X : Cx} {a b c : Expr} {ta tb tc : TE} {p pos rp rpos : Pos}
theorem pe_tupRg3 (hcalm : X.calm = true) (hg : Gl X "tuple") (hm : X.mg "tuple" = none) (hg2 : Gl X "range") (hm2 : X.mg "range" = none) (ha : PE X a ta) (hb : PE X b tb) (hc : PE X c tc)
    (na : starEach [a, b, c] X.env = (false, eval a X.env) :: starEach [b, c] X.env := by rfl) (nb : starEach [b, c] X.env = (false, eval b X.env) :: starEach [c] X.env := by rfl) (nc : starEach [c] X.env = (false, eval c X.env) :: starEach [] X.env := by rfl)
    (hp : (backTo rpos (starEach [b, c] X.env)).any (·.1) = false := by rfl) (nr : starEach [.Call (.Name "range" rp) [a, b, c] [] rpos] X.env = (false, eval (.Call (.Name "range" rp) [a, b, c] [] rpos) X.env) :: starEach [] X.env := by rfl) :
    PE X (.Call (.Name "tuple" p) [.Call (.Name "range" rp) [a, b, c] [] rpos] [] pos) (tTupRg3 ta tb tc) := by
  refine ⟨fun pins s σ H Q I h => ?_⟩
  refine Call_ (ld_blt I hg hm boot_tuple ?_)
  refine PyProof.Rows.callWith_type1 (PyProof.Rows.args_cons ?_ nr) nr rfl
  refine Call_ (ld_blt I hg2 hm2 boot_range ?_)
  refine PyProof.Rows.callWith_type1 (PyProof.Rows.args_cons (thn (ha.run pins s σ H _ I h) fun v s1 ⟨x, H1, I1, r1, q1⟩ => PyProof.Rows.args_cons (thn (hb.run pins s1 σ H1 _ I1 q1) fun v2 s2 ⟨y, H2, I2, r2, q2⟩ => PyProof.Rows.args_cons (thn (hc.run pins s2 σ H2 _ I2 q2) fun v3 s3 ⟨z, H3, I3, r3, q3⟩ => PyProof.Rows.args_nil ?_) nc) nb) na) na hp
  obtain ⟨i, j, k, rfl, rfl, rfl, k0, k1, i0, i1, j0, j1, q⟩ := q3
  obtain ⟨t1, rfl⟩ := r1
  obtain ⟨t2, rfl⟩ := r2
  obtain ⟨t3, rfl⟩ := r3
  refine call_range_3 (by omega) ?_ (.inl (PyProof.noPylong_small (by omega)))
  refine PyProof.Rows.args_nil ?_
  have I4 : L2.Inv X pins σ H3 { s3 with heap := s3.heap.push { cls := .type "range", data := .fields #[.int i t1, .int j t2, .int k t3] } } := I3.kept (t' := s3.toks) fun b u e => Heap.get?_push_of_some _ e
  have hle := stepN_le (a := i) (b := j) k0
  refine call_tuple_range (n := stepN i j k) (I4.ok.hd hcalm) (IsRange.new _ _ _ _ _ _ _) ?_ (stepN_size k0) (by omega) fun h' tk acc hk hi => ?_
  · have hn1 : ((stepN i j k : Nat) : Int) * k < 2000000 := by
      unfold stepN
      split
      · have n0 := Int.ediv_nonneg (show 0 ≤ j - i - 1 by omega) (show 0 ≤ k by omega)
        have e1 := Int.emod_add_mul_ediv (j - i - 1) k
        have e0 := Int.emod_nonneg (j - i - 1) (show k ≠ 0 by omega)
        rw [Int.toNat_of_nonneg (by omega), Int.add_mul, Int.one_mul, Int.mul_comm]
        omega
      · simp
    have hn0 : 0 ≤ ((stepN i j k : Nat) : Int) * k := Int.mul_nonneg (by omega) (by omega)
    unfold Builtin.Range.small
    rw [stepN_size k0, if_pos k0]
    simp only [Builtin.Range.rangeFitsLong, Bool.and_eq_true, Bool.or_eq_true, decide_eq_true_eq, beq_iff_eq]
    omega
  · have I5 : L2.Inv X pins σ H3 { s3 with heap := h', toks := tk } := I4.kept hk
    refine ⟨.ref h'.objs.size, upd H3 h'.objs.size (.tup (stepV i j k)), I5.laid (t' := tk) (fun c o e => Heap.get?_push_of_some _ e) (Nat.le_refl _) (show ObjOk X.prog X.w _ _ _ (.tup (stepV i j k)) from ⟨?_, acc.toList, step_vals hi, ?_⟩), rfl, q _ (I5.hok.fresh (Nat.le_refl _))⟩
    · unfold stepV
      rw [List.length_map, List.length_range, sizeLine_eq]; omega
    · rw [Array.toArray_toList]; exact IsTup.new _ _
end
def stepP (a b c : Int) : List PyData := (List.range (stepN a b c)).map fun i => PyData.int (a + (i : Nat) * c)
theorem stepP_dt {K : Kf} {G : Hp} (a b c : Int) : DtAll K G (stepV a b c) (stepP a b c) := by
  unfold stepV stepP
  generalize List.range (stepN a b c) = l
  induction l with
  | nil => exact .nil
  | cons x l ih => exact .cons (.int _) ih
def dTupRg3 (a b c : DE) : DE := fun S post => a S fun x => b S fun y => c S fun z => match x, y, z with
  | .py (.int i), .py (.int j), .py (.int k) => 0 < k ∧ k < 1000000 ∧ 0 ≤ i ∧ i < 1000000 ∧ 0 ≤ j ∧ j < 1000000 ∧ post (.py (.tuple (stepP i j k)))
  | _, _, _ => False
section
variable {X : Cx} {B : List Addr} {H0 : Hp} {a b c : Expr} {da db dc : DE} {p pos rp rpos : Pos}
theorem pd_tupRg3 (T : Bl X.mg) (hcalm : X.calm = true) (ha : PD X B H0 a da) (hb : PD X B H0 b db) (hc : PD X B H0 c dc) (hg : Gl X "tuple" := by rfl) (hg2 : Gl X "range" := by rfl)
    (na : starEach [a, b, c] X.env = (false, eval a X.env) :: starEach [b, c] X.env := by rfl) (nb : starEach [b, c] X.env = (false, eval b X.env) :: starEach [c] X.env := by rfl) (nc : starEach [c] X.env = (false, eval c X.env) :: starEach [] X.env := by rfl)
    (hp : (backTo rpos (starEach [b, c] X.env)).any (·.1) = false := by rfl) (nr : starEach [.Call (.Name "range" rp) [a, b, c] [] rpos] X.env = (false, eval (.Call (.Name "range" rp) [a, b, c] [] rpos) X.env) :: starEach [] X.env := by rfl) :
    PD X B H0 (.Call (.Name "tuple" p) [.Call (.Name "range" rp) [a, b, c] [] rpos] [] pos) (dTupRg3 da db dc) :=
  PEmono (pe_tupRg3 hcalm hg T.tuple hg2 T.range ha hb hc na nb nc hp nr) fun σ H Q ⟨G, S, post, hs, hd, hq⟩ => by
  refine ⟨G, S, _, hs, hd, fun x dx G1 H1 s1 r1 p1 => ⟨G1, S, _, hs.step s1, p1, fun y dy G2 H2 s2 r2 p2 => ⟨G2, S, _, (hs.step s1).step s2, p2, fun z dz G3 H3 s3 r3 p3 => ?_⟩⟩⟩
  split at p3
  · next i j k =>
    cases r1; cases r2; cases r3
    obtain ⟨q1, q2, q3, q4, q5, q6, q7⟩ := p3
    exact ⟨i, j, k, rfl, rfl, rfl, q1, q2, q3, q4, q5, q6, fun q hq2 => hq _ _ _ _ ((s1.trans (s2.trans s3)).trans (Stp.new s3.wd hq2 _)) (Rp.ofDt (Dt.newT (s3.wd.sub.free hq2) (stepP_dt i j k))) q7⟩
  · exact p3.elim
end
end DL
/- ==== DLz ==== -/
/-! DLz: sorted(set(a list of ints)). -/
namespace DL
open PySem PySem.Spec PyProof.Rows PySem.Calls L2 RZ
abbrev newSet (w : World) : Obj := { cls := .type "set", dict := none, data := .set #[] 0 (.fresh 0 0 (!w.params.followText "set-order")) }
/-- what a set of a list is, when it is made -/
def SetMade (w : World) (s : Shared) (ns : List Int) (s' : Shared) : Prop := ∃ (h' : Heap) (tk c : Nat), s' = { s with heap := h', toks := tk } ∧ SetR w h' s.heap.objs.size (fun j => decide (j ∈ ns)) c ∧ c ≤ ns.length ∧ ∀ b o, s.heap.get? b = some o → h'.get? b = some o
section
variable {P : Program} {w : World} {A : Around} {E : Value → Shared → Prop} {s : Shared}
theorem set_fill {A2 : Around} {l : Addr} {items : Array Value} {ns : List Int} {R : Result → Shared → Prop} (hh : A.handled = none) (hl : s.heap.IsList l items) (hit : IntsAre items.toList ns) (hb : ns.length + 1 < scanBound)
    (hR : ∀ s', SetMade w s ns s' → R (.ok (.ret .none)) s') :
    wpAny (model P w) A (Builtin.«set.__init__» ⟨[.ref s.heap.objs.size, .ref l], []⟩)
      (fun fin s' => match fin with | .done f => R (.ok f) s' | .again c' => c'.quiet = true ∧ codeAny (model P w) A2 c' R s') (fun e s' => R (.error e) s') { s with heap := s.heap.push (newSet w) } := by
  have sz : items.size = ns.length := by
    have q := IntsAre.length hit
    rwa [Array.length_toList] at q
  have hS : (s.heap.push (newSet w)).get? s.heap.objs.size = some (newSet w) := Heap.get?_push_size _ rfl
  obtain ⟨ol, ho, hc, nl, hd⟩ := hl
  obtain ⟨ocls, odict, odata, oslots⟩ := ol
  simp only at hc hd
  subst hc; subst hd
  have hol : (s.heap.push (newSet w)).get? l = some { cls := .type "list", dict := odict, data := .seq items nl, slots := oslots } := Heap.get?_push_of_some _ ho
  have hll : (s.heap.push (newSet w)).IsList l items := ⟨_, hol, rfl, nl, rfl⟩
  have f1 := F.sub_list_set
  have f2 := F.sub_list_frozenset
  have f3 : (Value.type "list" == Value.type "dict") = false := by decide
  unfold Builtin.«set.__init__» noKeywords Builtin.Frozenset.updateFrom
  generalize hPI : pyIter = PI
  wp_walk
  subst hPI
  refine wpAny_pyIter_list hll (wpAny_bind (wpAny_runValue ?_))
  have lS : l < s.heap.objs.size := Heap.lt_size ho
  have pz : (s.heap.push (newSet w)).objs.size = s.heap.objs.size + 1 := Heap.size_push ..
  have ne1 : l ≠ (s.heap.push (newSet w)).objs.size := by rw [pz]; exact Nat.ne_of_lt (Nat.lt_succ_of_lt lS)
  have off : s.heap.objs.size ∉ [(s.heap.push (newSet w)).objs.size, l] := by
    rw [pz]
    simp only [List.mem_cons, List.not_mem_nil, or_false, not_or]
    exact ⟨Nat.ne_of_lt (Nat.lt_succ_self _), Nat.ne_of_gt lS⟩
  have val : ∀ (i : Nat) (v : Value), items[i]? = some v → ∃ k t, ns[i]? = some k ∧ v = .int k t := fun i v hv => by
    have il : i < ns.length := by rw [← sz]; exact (Array.getElem?_eq_some_iff.mp hv).1
    obtain ⟨t, e⟩ := PyProof.Rows.IntsAre.int_at hit i v (by rw [Array.getElem?_toList]; exact hv)
    rw [List.getD_eq_getElem?_getD, List.getElem?_eq_getElem il] at e
    exact ⟨ns[i], t, List.getElem?_eq_getElem il, e⟩
  have hh1 : A.in1.handled = none := by simp [hh]
  refine set_update_ints ((Walks.list hh1 _ l ne1 items).toS) s.heap.objs.size off ns sz hb val (items.size - 0) 0 _ (by omega) (Nat.zero_le _) ⟨⟨_, Heap.get?_push_size _ rfl, rfl, rfl⟩, hll.push _⟩ ⟨0, Nat.le_refl 0, setR_new_at (Heap.get?_push_of_some _ hS)⟩ fun s' c' hm hc' hS' => ?_
  obtain ⟨h', g2, d', tk', os'⟩ := s'
  have eg : g2 = s.gens := hm.gens
  have ed : d' = s.drawn := hm.drawn
  have eo : os' = s.os := hm.os
  subst eg; subst ed; subst eo
  refine wpAny_pure (wpAny_pure (hR _ ⟨h', tk', c', rfl, hS', by rw [← sz]; exact hc', fun b o e => ?_⟩))
  have b0 : b < s.heap.objs.size := Heap.lt_size e
  refine hm.heap b o ?_ (Heap.get?_push_of_some _ (Heap.get?_push_of_some _ e))
  simp only [List.mem_cons, List.not_mem_nil, or_false, not_or]
  exact ⟨Nat.ne_of_lt b0, by rw [pz]; exact Nat.ne_of_lt (Nat.lt_succ_of_lt b0)⟩
theorem set_of_list {l : Addr} {items : Array Value} {ns : List Int} {Q : Value → Shared → Prop} (hh : A.handled = none) (hl : s.heap.IsList l items) (hit : IntsAre items.toList ns) (hb : ns.length + 1 < scanBound)
    (hQ : ∀ s', SetMade w s ns s' → Q (.ref s.heap.objs.size) s') : wpAny (model P w) A (call (.type "set") [.ref l]) Q E s := by
  obtain ⟨c, tl, mro⟩ := F.called_set.mro
  have made := F.called_set.made
  have sub := F.called_set.sub
  refine wpAny_call (codeAny_of_tree ?_)
  change wpAny _ _ (callAny (.type "set") _) _ _ _
  refine wpAny_pure ⟨Code.quiet_builtin _ (by decide +kernel), codeAny_builtin F.entry_type_call ?_⟩
  rw [Around.under_plain (weight_type_call_type "set" [.ref l] []) rfl]
  have g1 := F.called_set.notType
  have g2 := F.called_set.canCreate
  have g3 := F.typeCall_set_1 (.ref l)
  repeat (any_goals (first | assumption | wp_step))

  refine codeAny_mono (code_set_led1 (.ref l) (E := E) (Q₁ := fun obj s₁ => obj = .ref s.heap.objs.size ∧ s₁ = { s with heap := s.heap.push (newSet w) }) ⟨rfl, rfl⟩) fun r s₁ hr => ?_
  match r, hr with
  | .error e, hr => exact hr
  | .ok (.ret obj), hr =>
    obtain ⟨rfl, rfl⟩ := hr
    have hS : (s.heap.push (newSet w)).get? s.heap.objs.size = some (newSet w) := Heap.get?_push_size _ rfl
    have hT : Shared.TypeIs { s with heap := s.heap.push (newSet w) } (.ref s.heap.objs.size) "set" := ⟨_, hS, rfl⟩
    have g4 := F.called_set.init.lookup
    have g5 := F.called_set.init.bind (.ref s.heap.objs.size)
    repeat (any_goals (first | assumption | wp_step))

    refine codeAny_mono (codeAny_call_builtin (R := wants (fun r s₂ => r = .none ∧ SetMade w s ns s₂) E) F.called_set.init.plain F.entry_set_init (check_set_init_1 hT ?_)) fun r₂ s₂ hr₂ => ?_
    · refine set_fill (by simp [hh]) hl hit hb fun s' m => ?_
      exact ⟨rfl, m⟩
    match r₂, hr₂ with
    | .error e, hr₂ => exact hr₂
    | .ok (.ret r), hr₂ =>
      obtain ⟨rfl, m⟩ := hr₂
      repeat (any_goals (first | assumption | wp_step))
      exact hQ _ m
end
end DL
/- ==== DMa ==== -/
/-! DMa: a set sorted, any number of ints. -/
namespace DL
open PySem PySem.Spec PyProof.Rows PySem.Calls L2 RZ
section
variable {P : Program} {w : World} {A : Around} {E : Value → Shared → Prop} {s : Shared} {a : Addr}
theorem sort_set {S : Int → Bool} {n : Nat} {Q : Value → Shared → Prop} (R : SetR w s.heap a S n) (hh : A.handled = none)
    (hQ : ∀ s' p (out : Array Value) (c : Nat) (ns : List Int), (∀ b o, s.heap.get? b = some o → s'.heap.get? b = some o) → s'.gens = s.gens → s'.os = s.os → s.heap.objs.size ≤ p →
      s'.heap.get? p = some (seqObj "list" out c) → Vals (ns.map V.int) out.toList → ns.Pairwise (· < ·) → (∀ k, k ∈ ns ↔ S k = true) → ns.length = n → Q (.ref p) s') : wpAny (model P w) A (call (.builtin "sorted") [.ref a]) Q E s := by
  obtain ⟨o, es, ep, t, ho, hex, hd, good, nd, mem, hb, fits, hn, ris, led⟩ := R
  refine Calls.call_function_entry kind_sorted plain_sorted entry_sorted (args_sorted1 _) ?_
  unfold Builtin.«sorted»
  refine wpAny_bind (m := checkCount "sorted" 1 1 _) (wpAny_pure ?_)
  refine wpAny_bind (collect_set (A := A.in1) hh ⟨o, ho, hex.1, hd⟩ fits hb ris led fun s1 vs k1 hz g1 o1 pm => ?_)
  have vl : vs.length = n := by rw [pm.length_eq, List.length_map, Array.length_toList]; exact hn
  have hI : IntsAre vs (vs.map Builtin.Re.reRawOf) := ints_of vs fun v hv => by
    obtain ⟨e, he, q⟩ := List.mem_map.mp (pm.mem_iff.mp hv)
    obtain ⟨k, tk, z, _⟩ := good e he
    exact ⟨k, tk, by rw [← q]; exact z⟩
  have pk : (vs.map Builtin.Re.reRawOf).Perm (es.toList.map keyOf) := by
    have q := pm.map Builtin.Re.reRawOf
    rw [List.map_map] at q
    exact q
  have small : n ≤ sizeLine := by rw [← hn]; exact fits_of_scanBound hb
  refine wpAny_bind (wpAny_newList ?_ (by rw [vl]; exact small))
  have hoL : (s1.heap.push (seqObj "list" vs.toArray 0)).get? s1.heap.objs.size = some (seqObj "list" vs.toArray 0) := Heap.get?_push_size _ rfl
  refine wpAny_bind (wpAny_holding (wpAny_call_entry PyProof.Rows.slot_list_sort ⟨_, hoL, rfl⟩ PyProof.Rows.entry_list_sort
    (SrtO.list_sort_ord (s := { s1 with heap := s1.heap.push (seqObj "list" vs.toArray 0) }) SrtO.swo_int hoL (by rw [vl]; exact small) (fun h2 => SrtO.ints_sortable hI h2) fun out q1 q2 => ⟨_, rfl, ?_⟩) (PyProof.Rows.args_list_sort _)))
  obtain ⟨k2, k3, k4⟩ := SrtO.ints_out hI q1 q2
  obtain ⟨c, hc⟩ := PyProof.Rows.sortedHeap_at (vs := vs) (out := out.toArray) hoL
  have pn : (out.map SrtO.iv).Perm (es.toList.map keyOf) := k3.trans pk
  refine wpAny_pure ⟨_, rfl, hQ _ s1.heap.objs.size out.toArray c (out.map SrtO.iv) (fun b u e => ?_) g1 o1 hz hc (vals_of_ints k2) (lt_of_le_nodup _ k4 (pn.nodup_iff.mpr nd)) (fun k => by rw [pn.mem_iff, ← mem k]) ?_⟩
  · have q := k1 b u e
    have hlt := Heap.lt_size q
    rw [PyProof.Rows.sortedHeap_old (Nat.ne_of_lt hlt) (by rw [size_push']; exact Nat.lt_succ_of_lt hlt)]
    exact Heap.get?_push_of_some _ q
  · rw [pn.length_eq, List.length_map, Array.length_toList]; exact hn
end
def tSortSet (K : Kf) (te : TE) : TE := fun σ H Q => te σ H fun x H1 => ∃ (l : Addr) (ns : List Int), x = .ref l ∧ SqL K H1 l (ns.map V.int) ∧ ns.length ≤ 4000 ∧ ∀ (ys : List Int) (p : Addr), ys.Pairwise (· < ·) → (∀ k, k ∈ ys ↔ k ∈ ns) → ys.length ≤ ns.length → H1 p = none → Q (.ref p) (upd H1 p (.lst (ys.map V.int)))
section
variable {X : Cx} {a : Expr} {ta : TE} {p p2 q pos : Pos}
theorem pe_sortSet (hc : X.calm = true) (hg : Gl X "sorted") (hm : X.mg "sorted" = none) (hg2 : Gl X "set") (hm2 : X.mg "set" = none) (ha : PE X a ta)
    (na : starEach [a] X.env = (false, eval a X.env) :: starEach [] X.env := by rfl) (nr : starEach [.Call (.Name "set" p2) [a] [] q] X.env = (false, eval (.Call (.Name "set" p2) [a] [] q) X.env) :: starEach [] X.env := by rfl) : PE X (.Call (.Name "sorted" p) [.Call (.Name "set" p2) [a] [] q] [] pos) (tSortSet X.K ta) := by
  refine ⟨fun pins s σ H Q I h => ?_⟩
  refine Call_ (ld_blt I hg hm boot_sorted ?_)
  refine PyProof.Rows.callWith_builtin1 (PyProof.Rows.args_cons ?_ nr) nr rfl
  refine Call_ (ld_blt I hg2 hm2 boot_set ?_)
  refine PyProof.Rows.callWith_type1 (PyProof.Rows.args_cons (thn (ha.run pins s σ H _ I h) fun v s1 ⟨x, H1, I1, r1, q1⟩ => PyProof.Rows.args_nil ?_) na) na rfl
  obtain ⟨l, ns, rfl, hq, hl, q1⟩ := q1
  cases r1
  obtain ⟨its, r, pl, hz⟩ := I1.list hq
  refine set_of_list (ns := ns) (I1.ok.hd hc) pl.isList (by simpa using intsAre_vals r) (by unfold scanBound; omega) fun s' ⟨h', tk, c, e, R, hcn, keep⟩ => ?_
  subst e
  refine PyProof.Rows.args_nil ?_
  have I2 : L2.Inv X pins σ H1 { s1 with heap := h', toks := tk } := I1.kept keep
  refine sort_set (s := { s1 with heap := h', toks := tk }) R (I1.ok.hd hc) fun s2 pn out c2 ys k g o hp hget hv hs hmem hlen => ?_
  have hn : H1 pn = none := I2.hok.fresh hp
  have J : L2.Inv X pins σ (upd H1 pn (.lst (ys.map V.int))) { ({ s1 with heap := h', toks := tk } : Shared) with heap := s2.heap, gens := s2.gens, drawn := s2.drawn, toks := s2.toks } :=
    I2.call (ch := []) (Un.laid k hp hn) (I2.hok.laid k hp ⟨by rw [List.length_map, hlen, sizeLine_eq]; omega, out.toList, c2, hv, hget⟩) (by rw [g]; exact I2.bare) (fun _ z => nomatch z)
  have e : s2 = { ({ s1 with heap := h', toks := tk } : Shared) with heap := s2.heap, gens := s2.gens, drawn := s2.drawn, toks := s2.toks } := by
    cases s2; cases o; rfl
  rw [e]
  exact ⟨.ref pn, _, J, rfl, q1 ys pn hs (fun k => by rw [hmem k]; exact decide_eq_true_iff) (by omega) hn⟩
end
def dSortSet (de : DE) : DE := fun S post => de S fun x => ∃ ns : List Int, x.lsti = some (ns.map PyData.int) ∧ ns.length ≤ 4000 ∧ ∀ ys : List Int, ys.Pairwise (· < ·) → (∀ k, k ∈ ys ↔ k ∈ ns) → ys.length ≤ ns.length → post (.py (.list (ys.map PyData.int)))
theorem ints_dt {K : Kf} {G : Hp} : ∀ ys : List Int, DtAll K G (ys.map V.int) (ys.map PyData.int)
  | [] => .nil
  | y :: ys => .cons (.int y) (ints_dt ys)
section
variable {X : Cx} {B : List Addr} {H0 : Hp} {e : Expr} {de : DE} {p p2 q pos : Pos}
theorem pd_sortSet (T : Bl X.mg) (hc : X.calm = true) (he : PD X B H0 e de) (hg : Gl X "sorted" := by rfl) (hg2 : Gl X "set" := by rfl)
    (na : starEach [e] X.env = (false, eval e X.env) :: starEach [] X.env := by rfl) (nr : starEach [.Call (.Name "set" p2) [e] [] q] X.env = (false, eval (.Call (.Name "set" p2) [e] [] q) X.env) :: starEach [] X.env := by rfl) : PD X B H0 (.Call (.Name "sorted" p) [.Call (.Name "set" p2) [e] [] q] [] pos) (dSortSet de) :=
  PEmono (pe_sortSet hc hg T.sorted hg2 T.set he na nr) fun σ H Q ⟨G, S, post, hs, hd, hq⟩ => by
  refine ⟨G, S, _, hs, hd, fun v d G1 H1 s1 r1 p1 => ?_⟩
  obtain ⟨ns, e1, hl, p1⟩ := p1
  obtain ⟨l, vs, rfl, h1, h2⟩ := rp_lst s1.wd r1 e1
  have := h2.ints
  subst this
  exact ⟨l, ns, rfl, SqL.of h1, hl, fun ys pn k1 k2 k3 k4 => hq _ _ _ _ (s1.trans (Stp.new s1.wd k4 _)) (Rp.ofDt (Dt.newL (s1.wd.sub.free k4) (ints_dt ys))) (p1 ys k1 k2 k3)⟩
end
end DL
/- ==== DMb ==== -/
/-! DMb: x = a + b, a list of one's own -/
namespace DL
open PySem PySem.Spec PyProof.Rows PySem.Calls L2 RZ
def dSetAddO (i : Nat) (da db : DE) : DS := fun E S => da S fun x => db S fun y => match x, y with
  | .py (.list a), .py (.list b) => a.length + b.length ≤ 16000000 ∧ E.nx (S.set i (some (.ol (a ++ b))))
  | _, _ => False
section
variable {X : Cx} {B : List Addr} {H0 : Hp} {a b : Expr} {da db : DE} {pos pos' p2 : Pos} {x : Str}
theorem psd_setAddO {i : Nat} (hN : X.N.Nodup) (hi : X.N[i]? = some x) (hx : Loc X.env.scope x) (ha : PD X B H0 a da) (hb : PD X B H0 b db) (hs : swapsWith (.BinOp a .Add b p2) (some (.Name x pos')) pos.line X.env = pure false := by rfl) (hf : X.fn x = true ∨ X.env.scope.names.lookup x = some .local := by first | exact .inl rfl | exact .inr rfl | assumption) :
    PDS X B H0 (.Assign [.Name x pos'] (.BinOp a .Add b p2) pos) (dSetAddO i da db) := PSmono (ps_set hN hi hx (pe_op op_addA ha hb) hs hf) fun D σ H ⟨G0, E, ⟨G, S, hs, ho, hd⟩, q1, q2, q3, q4⟩ => by
  refine ⟨G, S, _, hs, hd, fun v d G1 H1 s1 r1 p1 => ⟨G1, S, _, hs.step s1, p1, fun v2 d2 G2 H2 s2 r2 p2 => ?_⟩⟩
  replace r1 := Rp.up s2.toOld r1
  split at p2
  · next l1 l2 =>
    cases r1 with
    | lst h1 h2 =>
      cases r2 with
      | lst h3 h4 =>
        refine .inr (.inl ⟨_, _, _, _, rfl, rfl, s2.wd.sub _ _ h1, s2.wd.sub _ _ h3, szM (by rw [h2.length, h4.length]; exact p2.1), fun p hp => ?_⟩)
        have w := (hs.step (s1.trans s2))
        obtain ⟨k1, k2⟩ := w.newOwn (ho.trans (s1.trans s2).toOld) i hp (u := .lst _) (d := .ol (l1 ++ l2)) ⟨p, _, rfl, ⟨w.wd.sub.free hp, bag_ne w.wd hp⟩, upd_same, h2.append h4⟩
        exact q1 _ _ ⟨G2, _, k1, k2, p2.2⟩
  · exact p2.elim
end
end DL
/- ==== DMc ==== -/
/-! DMc: a list of one's own stands still from a statement on -/
namespace DL
open PySem PySem.Spec PyProof.Rows PySem.Calls L2 RZ
def dFrz (i : Nat) (d : DS) : DS := fun E S => match S[i]? with
  | some (some (.ol ds)) => d E (S.set i (some (.py (.list ds))))
  | _ => False
section
variable {X : Cx} {B : List Addr} {H0 : Hp} {st : Stmt} {d : DS}
theorem Sl.frz {K : Kf} {S : Slots} {σ : L2.St} {G H G0 : Hp} {i : Nat} {ds : List PyData} (hs : Sl K B H0 S σ G H) (ho : Old B G0 H0 G H) (e : S[i]? = some (some (.ol ds))) : ∃ G', Sl K B H0 (S.set i (some (.py (.list ds)))) σ G' H ∧ Old B G0 H0 G' H := by
  obtain ⟨v, h1, ⟨p, vs, rfl, w1, w2, w3⟩, h3⟩ := hs.slot i _ e
  obtain ⟨r1, r2⟩ := release hs.wd ho w1.1 w1.2 w2 (h3 trivial p rfl)
  have up : Same G (upd G p (.lst vs)) := Same.updN w1.1
  refine ⟨upd G p (.lst vs), ⟨r1, by rw [List.length_set]; exact hs.len, fun j dj hj => ?_, fun j k dj dk q hjk hj hk oj ok e1 e2 => ?_⟩, r2⟩
  · rcases set_get hj with ⟨rfl, e1, _⟩ | ⟨ne, h2⟩
    · cases e1
      exact ⟨.ref p, h1, Rp.ofDt (.lst upd_same (DtAll.up up w3)), fun z => z.elim⟩
    · obtain ⟨u, k1, k2, k3⟩ := hs.slot j dj h2
      refine ⟨u, k1, ?_, k3⟩
      have apart : dj.own → ∀ p', u = .ref p' → p' ≠ p := fun o p' z y => by
        subst z; subst y
        exact hs.sep i j _ dj p' ne e h2 trivial o h1 k1
      cases dj with
      | py q => exact Dt.up up k2
      | raw q => exact k2
      | ol l =>
        obtain ⟨p', vs', rfl, y1, y2, y3⟩ := k2
        exact ⟨p', vs', rfl, ⟨by rw [upd_ne (apart trivial p' rfl)]; exact y1.1, y1.2⟩, y2, DtAll.up up y3⟩
      | od l =>
        obtain ⟨p', vs', rfl, y1, y2, y3⟩ := k2
        exact ⟨p', vs', rfl, ⟨by rw [upd_ne (apart trivial p' rfl)]; exact y1.1, y1.2⟩, y2, KvR.up up y3⟩
      | dic l =>
        obtain ⟨p', vs', y1, y2, y3⟩ := k2
        exact ⟨p', vs', y1, up _ _ y2, KvR.up up y3⟩
      | ins a c l =>
        obtain ⟨dx, vs', y1, y2, y3⟩ := k2
        exact ⟨dx, vs', y1, up _ _ y2, KvR.up up y3⟩
      | fn L =>
        obtain ⟨f, c, pm, ct, y1, y2, y3⟩ := k2
        exact ⟨f, c, pm, ct, y1, up _ _ y2, up _ _ y3⟩
      | lk l =>
        obtain ⟨p', od', vs', y1, y2, y3⟩ := k2
        exact ⟨p', od', vs', y1, up _ _ y2, KvR.up up y3⟩
      | ex a dd l =>
        obtain ⟨y1, vs', y2, y3⟩ := k2
        exact ⟨y1, vs', up _ _ y2, KvR.up up y3⟩
  · rcases set_get hj with ⟨rfl, z, _⟩ | ⟨nj, hj⟩
    · cases z; exact oj.elim
    · rcases set_get hk with ⟨rfl, z, _⟩ | ⟨nk, hk⟩
      · cases z; exact ok.elim
      · exact hs.sep j k dj dk q hjk hj hk oj ok e1 e2
theorem psd_frz (i : Nat) (h : PDS X B H0 st d) : PDS X B H0 st (dFrz i d) := PSmono h fun D σ H ⟨G0, E, ⟨G, S, hs, ho, hd⟩, q1, q2, q3, q4⟩ => by
  unfold dFrz at hd
  split at hd
  · next ds e =>
    obtain ⟨G', k1, k2⟩ := hs.frz ho e
    exact ⟨G0, E, ⟨G', _, k1, k2, hd⟩, q1, q2, q3, q4⟩
  · exact hd.elim
end
end DL
/- ==== DMd ==== -/
/-! DMd: repr of a bool; the draws of a bag themselves. -/
namespace DL
open PySem PySem.Spec PyProof.Rows PySem.Calls L2 RZ
def boolWord (b : Bool) : Str := if b then "True" else "False"
theorem cr_reprB {X : Cx} : CallR X (.builtin "repr") (fun xs H Q => ∃ b, xs = [.bl b] ∧ Q (.str (boolWord b)) H) := by
  intro pins s σ H xs us Q I r h
  obtain ⟨b, rfl, q⟩ := h
  obtain ⟨u, rfl, rfl⟩ := vals1 r
  exact PySem.P.repr_of_bool ⟨.str (boolWord b), H, I.tok _, ⟨s.toks, by cases b <;> rfl⟩, q⟩
def cRepr : List D → (D → Prop) → Prop := fun xs post => match xs with
  | [.py (.bool b)] => post (.py (.str (boolWord b)))
  | _ => False
theorem cd_repr {K : Kf} {B : List Addr} : CallD K B (fun xs H Q => ∃ b, xs = [.bl b] ∧ Q (.str (boolWord b)) H) cRepr := fun G H xs dxs post Q w r hf hq => by
  unfold cRepr at hf
  split at hf
  · cases r with
    | cons rx rn => cases rn; cases rx; exact ⟨_, rfl, stay w hq (.str _) hf⟩
  · exact hf.elim
def fBag (B : List Addr) : D → D → (D → Prop) → Prop := fun x y post => match x, y with
  | .raw (.ref b), .py (.int i) => bagIn B b ∧ ((i = 0 ∧ ∀ ns : List Int, ns.length = 400 → (∀ n ∈ ns, 0 ≤ n ∧ n < 1000) → post (.py (.list (ns.map PyData.int)))) ∨ (i = 1 ∧ ∀ c : Int, 0 ≤ c → post (.py (.int c))))
  | _, _ => False
theorem ints_dt2 {K : Kf} {G : Hp} : ∀ ys : List Int, DtAll K G (ys.map V.int) (ys.map PyData.int)
  | [] => .nil
  | y :: ys => .cons (.int y) (ints_dt2 ys)
theorem od_bag {K : Kf} {B : List Addr} : OpD K B (rIx K) (fBag B) := fun G H x y dx dy post Q w rx ry hf hq => by
  unfold fBag at hf
  split at hf
  · next b i =>
    cases ry
    have rx : x = .ref b := rx
    subst rx
    obtain ⟨hb, hf⟩ := hf
    obtain ⟨dl, c, ns, h1, h2, h3, h4, h5⟩ := (w.draw hb).2
    rcases hf with ⟨rfl, hf⟩ | ⟨rfl, hf⟩
    · exact .inl ⟨_, _, _, .ref dl, rfl, rfl, SqL.of h1, rfl, stay w hq (.lst h3 (ints_dt2 ns)) (hf ns h4 h5)⟩
    · exact .inl ⟨_, _, _, .int c, rfl, rfl, SqL.of h1, rfl, stay w hq (.int c) (hf c h2)⟩
  · exact hf.elim
section
variable {X : Cx} {B : List Addr} {H0 : Hp} {e a b : Expr} {de da db : DE} {p pos : Pos}
theorem pd_repr (T : Bl X.mg) (ha : PD X B H0 e de) (hg : Gl X "repr" := by rfl) (s2 : starEach [e] X.env = (false, eval e X.env) :: starEach [] X.env := by rfl) (hpl : (backTo pos (starEach [] X.env)).any (·.1) = false := by rfl) : PD X B H0 (.Call (.Name "repr" p) [e] [] pos) (dCB cRepr (dCons de dNil)) :=
  pd_callB cr_reprB cd_repr hg T.repr bo_repr (pda_cons ha pda_nil s2) (by decide) (by decide) s2 hpl
theorem pd_bag (ha : PD X B H0 a da) (hb : PD X B H0 b db) (hs : PlainIx b := by exact fun _ _ => rfl) : PD X B H0 (.Subscript a b pos) (dOp (fBag B) da db) := PEmono (pe_ix ix_seq ha hb hs) fun _ _ _ h => lift2 od_bag h
end
end DL
/- ==== DMe ==== -/
/-! DMe: for k in d; pairs with a dict; a list's place stored; isinstance of two. -/
namespace DL
open PySem PySem.Spec PyProof.Rows PySem.Calls L2 RZ
/-! ### a dict read over -/
def keyP : Key → PyData
  | .inl n => .int n
  | .inr z => .str z
theorem keyP_dt {K : Kf} {G : Hp} : ∀ k : Key, Dt K G (kV k) (keyP k)
  | .inl n => .int n
  | .inr z => .str z
def Shows (G G' : Hp) : Prop := ∀ a o, G a = some o → ((∃ xs, o = .lst xs ∨ o = .tup xs ∨ ∃ q, o = .frz q (.tup xs)) ∨ ∃ φ, o = .ext φ) → G' a = some o
theorem SqT.cut {K : Kf} {G G' : Hp} {a : Addr} {xs : List V} (e : Shows G G') (h : SqT K G a xs) : SqT K G' a xs := by
  rcases h with (h | ⟨o, h⟩) | h
  · exact .inl (.inl (e _ _ h (.inl ⟨_, .inr (.inl rfl)⟩)))
  · exact .inl (.inr ⟨o, e _ _ h (.inl ⟨_, .inr (.inr ⟨_, rfl⟩)⟩)⟩)
  · exact .inr h
mutual
theorem Dt.cut {K : Kf} {G G' : Hp} (e : Shows G G') : ∀ {v : V} {d : PyData}, Dt K G v d → Dt K G' v d
  | _, _, .non => .non
  | _, _, .bl b => .bl b
  | _, _, .int i => .int i
  | _, _, .str x => .str x
  | _, _, .lst h ha => .lst (e _ _ h (.inl ⟨_, .inl rfl⟩)) (DtAll.cut e ha)
  | _, _, .tup h ha => .tup (SqT.cut e h) (DtAll.cut e ha)
theorem DtAll.cut {K : Kf} {G G' : Hp} (e : Shows G G') : ∀ {vs : List V} {ds : List PyData}, DtAll K G vs ds → DtAll K G' vs ds
  | _, _, .nil => .nil
  | _, _, .cons h t => .cons (Dt.cut e h) (DtAll.cut e t)
end
theorem KvR.cut {κ : Type} {K : Kf} {G G' : Hp} (e : Shows G G') {vs : List (κ × V)} {kvs : List (κ × PyData)} (h : KvR K G vs kvs) : KvR K G' vs kvs :=
  Paired.mapP h fun _ _ z => ⟨z.1, Dt.cut e z.2⟩
theorem KvR.at {K : Kf} {G : Hp} : ∀ {vs : List (Key × V)} {kvs : List (Key × PyData)} {k : Nat}, KvR K G vs kvs → (vs[k]?).map (·.1) = (kvs[k]?).map (·.1)
  | _, _, _, .nil => by simp
  | _, _, 0, .cons r _ => by simp [r.1]
  | _, _, k + 1, .cons _ t => by simpa using KvR.at (k := k) t
/-! ### x, y = a, b by a tuple -/
def dParG (i j : Nat) (a b : DE) : DS := fun E S => a S fun x => b S fun y => fre x (fre y (E.nx ((S.set i (some x)).set j (some y))))
section
variable {X : Cx} {B : List Addr} {H0 : Hp} {x y : Str} {a b : Expr} {da db : DE} {px py pt pos : Pos} {kt k2 : Nat} {pt2 : Pos}
theorem fre_out {d : D} {p : Prop} (h : fre d p) : ¬ d.own ∧ p := by
  cases d with
  | ol _ => exact h.elim
  | od _ => exact h.elim
  | _ => exact ⟨fun z => z, h⟩
theorem psd_parG {i j : Nat} (hc : X.calm = true) (hN : X.N.Nodup) (hi : X.N[i]? = some x) (hj : X.N[j]? = some y) (hx : Loc X.env.scope x) (hy : Loc X.env.scope y) (ha : PD X B H0 a da) (hb : PD X B H0 b db)
    (s1 : starEach [a, b] X.env = (false, eval a X.env) :: starEach [b] X.env := by rfl) (s2 : starEach [b] X.env = (false, eval b X.env) :: starEach [] X.env := by rfl) (hs : swapsWithSole [.Tuple [.Name x px, .Name y py] kt pt] (.Tuple [a, b] k2 pt2) pos.line X.env = pure false := by rfl) (hw : swappedStores [.Tuple [.Name x px, .Name y py] kt pt] (.Tuple [a, b] k2 pt2) X.env = pure none := by rfl)
    (h1 : (assignEach [.Tuple [.Name x px, .Name y py] kt pt] X.env).map (·.2) = [assign (.Tuple [.Name x px, .Name y py] kt pt) X.env] := by rfl)
    (hf : X.fn x = true ∨ X.env.scope.names.lookup x = some .local := by first | exact .inl rfl | exact .inr rfl | assumption) (hf2 : X.fn y = true ∨ X.env.scope.names.lookup y = some .local := by first | exact .inl rfl | exact .inr rfl | assumption) :
    PDS X B H0 (.Assign [.Tuple [.Name x px, .Name y py] kt pt] (.Tuple [a, b] k2 pt2) pos) (dParG i j da db) := PSmono (ps_asg (pe_tup (pa_cons ha (pa_cons hb pa_nil s2) s1)) (pg_tup (n := 2) hc (pgs_cons (pg_name hN hi hx hf) (pgs_cons (pg_name hN hj hy hf2) pgs_nil))) hs hw h1) fun D σ H ⟨G0, E, ⟨G, S, hs, ho, hd⟩, q1, q2, q3, q4⟩ => by
  refine ⟨G, S, _, hs, hd, fun v d G1 H1 e1 r1 p1 => ⟨G1, S, _, hs.step e1, p1, fun v2 d2 G2 H2 e2 r2 p2 => ⟨sz1000 (by show 2 ≤ 1000; decide), fun q hq => ?_⟩⟩⟩
  obtain ⟨n1, p2⟩ := fre_out p2
  obtain ⟨n2, p2⟩ := fre_out p2
  have st := Stp.new e2.wd hq (.tup [v, v2])
  have t := hs.step (e1.trans (e2.trans st))
  refine ⟨q, [v, v2], rfl, SqT.of upd_same, rfl, v, _, rfl, v2, _, rfl, rfl, q1 _ _ ⟨_, _, (t.set i (Rp.up (e2.trans st).toOld r1) n1).set j (Rp.up st.toOld r2) n2, ho.trans (e1.trans (e2.trans st)).toOld, p2⟩⟩
end
/-! ### sorted(set(a tuple of ints)) -/
def tSortSetT (K : Kf) (te : TE) : TE := fun σ H Q => te σ H fun x H1 => ∃ (l : Addr) (ns : List Int), x = .ref l ∧ SqT K H1 l (ns.map V.int) ∧ ns.length ≤ 4000 ∧ ∀ (ys : List Int) (p : Addr), ys.Pairwise (· < ·) → (∀ k, k ∈ ys ↔ k ∈ ns) → ys.length ≤ ns.length → H1 p = none → Q (.ref p) (upd H1 p (.lst (ys.map V.int)))
section
variable {X : Cx} {a : Expr} {ta : TE} {p p2 q pos : Pos}
theorem pe_sortSetT (hc : X.calm = true) (hg : Gl X "sorted") (hm : X.mg "sorted" = none) (hg2 : Gl X "set") (hm2 : X.mg "set" = none) (ha : PE X a ta)
    (na : starEach [a] X.env = (false, eval a X.env) :: starEach [] X.env := by rfl) (nr : starEach [.Call (.Name "set" p2) [a] [] q] X.env = (false, eval (.Call (.Name "set" p2) [a] [] q) X.env) :: starEach [] X.env := by rfl) : PE X (.Call (.Name "sorted" p) [.Call (.Name "set" p2) [a] [] q] [] pos) (tSortSetT X.K ta) := by
  refine ⟨fun pins s σ H Q I h => ?_⟩
  refine Call_ (ld_blt I hg hm boot_sorted ?_)
  refine PyProof.Rows.callWith_builtin1 (PyProof.Rows.args_cons ?_ nr) nr rfl
  refine Call_ (ld_blt I hg2 hm2 boot_set ?_)
  refine PyProof.Rows.callWith_type1 (PyProof.Rows.args_cons (thn (ha.run pins s σ H _ I h) fun v s1 ⟨x, H1, I1, r1, q1⟩ => PyProof.Rows.args_nil ?_) na) na rfl
  obtain ⟨l, ns, rfl, hq, hl, q1⟩ := q1
  cases r1
  obtain ⟨its, r, ht, hz⟩ := I1.tuple hq
  refine call_set_tupI ns (I1.ok.hd hc) ht (by simpa using intsAre_vals r) (by unfold scanBound; omega) fun h' tk c R hcn keep => ?_
  refine PyProof.Rows.args_nil ?_
  have I2 : L2.Inv X pins σ H1 { s1 with heap := h', toks := tk } := I1.kept keep
  refine sort_set (s := { s1 with heap := h', toks := tk }) R (I1.ok.hd hc) fun s2 pn out c2 ys k g o hp hget hv hs hmem hlen => ?_
  have hn : H1 pn = none := I2.hok.fresh hp
  have J : L2.Inv X pins σ (upd H1 pn (.lst (ys.map V.int))) { ({ s1 with heap := h', toks := tk } : Shared) with heap := s2.heap, gens := s2.gens, drawn := s2.drawn, toks := s2.toks } :=
    I2.call (ch := []) (Un.laid k hp hn) (I2.hok.laid k hp ⟨by rw [List.length_map, hlen, sizeLine_eq]; omega, out.toList, c2, hv, hget⟩) (by rw [g]; exact I2.bare) (fun _ z => nomatch z)
  have e : s2 = { ({ s1 with heap := h', toks := tk } : Shared) with heap := s2.heap, gens := s2.gens, drawn := s2.drawn, toks := s2.toks } := by
    cases s2; cases o; rfl
  rw [e]
  exact ⟨.ref pn, _, J, rfl, q1 ys pn hs (fun k => by rw [hmem k]; exact decide_eq_true_iff) (by omega) hn⟩
end
def dSortSetT (de : DE) : DE := fun S post => de S fun x => ∃ ns : List Int, x = .py (.tuple (ns.map PyData.int)) ∧ ns.length ≤ 4000 ∧ ∀ ys : List Int, ys.Pairwise (· < ·) → (∀ k, k ∈ ys ↔ k ∈ ns) → ys.length ≤ ns.length → post (.py (.list (ys.map PyData.int)))
section
variable {X : Cx} {B : List Addr} {H0 : Hp} {e : Expr} {de : DE} {p p2 q pos : Pos}
theorem pd_sortSetT (T : Bl X.mg) (hc : X.calm = true) (he : PD X B H0 e de) (hg : Gl X "sorted" := by rfl) (hg2 : Gl X "set" := by rfl)
    (na : starEach [e] X.env = (false, eval e X.env) :: starEach [] X.env := by rfl) (nr : starEach [.Call (.Name "set" p2) [e] [] q] X.env = (false, eval (.Call (.Name "set" p2) [e] [] q) X.env) :: starEach [] X.env := by rfl) : PD X B H0 (.Call (.Name "sorted" p) [.Call (.Name "set" p2) [e] [] q] [] pos) (dSortSetT de) :=
  PEmono (pe_sortSetT hc hg T.sorted hg2 T.set he na nr) fun σ H Q ⟨G, S, post, hs, hd, hq⟩ => by
  refine ⟨G, S, _, hs, hd, fun v d G1 H1 s1 r1 p1 => ?_⟩
  obtain ⟨ns, rfl, hl, p1⟩ := p1
  cases r1 with
  | tup h1 h2 =>
    have := h2.ints
    subst this
    exact ⟨_, ns, rfl, SqT.up s1.wd.sub h1, hl, fun ys pn k1 k2 k3 k4 => hq _ _ _ _ (s1.trans (Stp.new s1.wd k4 _)) (Rp.ofDt (Dt.newL (s1.wd.sub.free k4) (ints_dt ys))) (p1 ys k1 k2 k3)⟩
end
/-! ### xs = list(e), one's own; xs[k] = v -/
def dSetLiO (i : Nat) (de : DE) : DS := fun E S => de S fun x => match x.items with
  | some ds => E.nx (S.set i (some (.ol ds)))
  | none => False
def dSti (i : Nat) (dk dv : DE) : DS := fun E S => match S[i]? with
  | some (some (.ol ds)) => dv S fun v => dk S fun k => match v, k with
    | .py q, .py (.int n) => ∃ m : Nat, n = (m : Int) ∧ m < ds.length ∧ E.nx (S.set i (some (.ol (ds.set m q))))
    | _, _ => False
  | _ => False
section
variable {X : Cx} {B : List Addr} {H0 : Hp} {x : Str} {e ek ev : Expr} {de dk dv : DE} {p1 p2 pos pos' : Pos}
theorem rp_items {K : Kf} {G H : Hp} (w : Wd K B G H) {x : D} {v : V} {ds : List PyData} (h : Rp K B G H x v) (e : x.items = some ds) : ∃ p vs, v = .ref p ∧ (SqL K H p vs ∨ SqT K H p vs) ∧ DtAll K G vs ds := by
  cases x with
  | py q =>
    cases q with
    | list l => cases e; cases h with | lst h1 h2 => exact ⟨_, _, rfl, .inl (SqL.of (w.sub _ _ h1)), h2⟩
    | tuple l => cases e; cases h with | tup h1 h2 => exact ⟨_, _, rfl, .inr (SqT.up w.sub h1), h2⟩
    | _ => cases e
  | ol l => cases e; obtain ⟨p, vs, rfl, _, h1, h2⟩ := h; exact ⟨p, vs, rfl, .inl (SqL.of h1), h2⟩
  | _ => cases e
theorem psd_setLiO {i : Nat} (T : Bl X.mg) (hN : X.N.Nodup) (hi : X.N[i]? = some x) (hx : Loc X.env.scope x) (he : PD X B H0 e de) (hg : Gl X "list" := by rfl) (s2 : starEach [e] X.env = (false, eval e X.env) :: starEach [] X.env := by rfl) (hpl : (backTo p2 (starEach [] X.env)).any (·.1) = false := by rfl)
    (hs : swapsWith (.Call (.Name "list" p1) [e] [] p2) (some (.Name x pos')) pos.line X.env = pure false := by rfl) (hf : X.fn x = true ∨ X.env.scope.names.lookup x = some .local := by first | exact .inl rfl | exact .inr rfl | assumption) :
    PDS X B H0 (.Assign [.Name x pos'] (.Call (.Name "list" p1) [e] [] p2) pos) (dSetLiO i de) := PSmono (ps_set hN hi hx (pe_callTy call_list_of hg T.list bo_list (pa_cons he pa_nil s2) (by decide) (by decide) s2 hpl) hs hf) fun D σ H ⟨G0, E, ⟨G, S, hs, ho, hd⟩, q1, q2, q3, q4⟩ => by
  refine ⟨G, S, _, hs, hd, fun v d G1 H1 s1 r1 p1 => ?_⟩
  split at p1
  · next ds ei =>
    obtain ⟨p, vs, rfl, h1, h2⟩ := rp_items s1.wd r1 ei
    refine ⟨p, vs, rfl, h1, fun q hq => ?_⟩
    have w := hs.step s1
    obtain ⟨k1, k2⟩ := w.newOwn (ho.trans s1.toOld) i hq (u := .lst vs) (d := .ol ds) ⟨q, _, rfl, ⟨w.wd.sub.free hq, bag_ne w.wd hq⟩, upd_same, h2⟩
    exact q1 _ _ ⟨_, _, k1, k2, p1⟩
  · exact p1.elim
theorem psd_sti {i : Nat} (hN : X.N[i]? = some x) (hv : Vis X.env.scope x) (hd1 : (x == ("__debug__" : Str)) = false) (hcd : (x == ("__classdict__" : Str)) = false) (hk : PD X B H0 ek dk) (hval : PD X B H0 ev dv)
    (hs : swapsWithSole [.Subscript (.Name x p1) ek pos'] ev pos.line X.env = pure false := by rfl) (hw : swappedStores [.Subscript (.Name x p1) ek pos'] ev X.env = pure none := by rfl) (h1 : (assignEach [.Subscript (.Name x p1) ek pos'] X.env).map (·.2) = [assign (.Subscript (.Name x p1) ek pos') X.env] := by rfl)
    (ha : ∀ v, assign (.Subscript (.Name x p1) ek pos') X.env v = (do
      let ov ← holding [v] (eval (.Name x p1) X.env)
      let iv ← holding [v, ov] (eval ek X.env)
      standAt pos'
      holding [v, ov, iv] (setItem ov iv v)
      PySem.release [v, ov, iv] []) := by intro _; rfl) :
    PDS X B H0 (.Assign [.Subscript (.Name x p1) ek pos'] ev pos) (dSti i dk dv) := PSmono (ps_asg hval (pg_sub (pe_var hN hv hd1 hcd) hk set_list ha) hs hw h1) fun D σ H ⟨G0, E, ⟨G, S, hs, ho, hd⟩, q1, q2, q3, q4⟩ => by
  unfold dSti at hd
  split at hd
  · next ds es =>
    obtain ⟨v0, h1, ⟨p, vs, rfl, w1, w2, w3⟩, h3⟩ := hs.slot i _ es
    refine ⟨G, S, _, hs, hd, fun v d G1 H1 s1 r1 p1 => ⟨_, h1, G1, S, _, hs.step s1, p1, fun v2 d2 G2 H2 s2 r2 p2 => ?_⟩⟩
    have st := s1.trans s2
    have r1 := Rp.up s2.toOld r1
    split at p2
    · next _ _ _ q n _ =>
      obtain ⟨m, rfl, hm, p2⟩ := p2
      cases r2
      have k := st.keep p _ w2 w1.1 w1.2
      have hlen := w3.length
      refine ⟨p, vs, (m : Int), m, rfl, rfl, k.1, by unfold ixN; rw [if_pos (by omega), if_pos (by omega)]; rfl, ?_⟩
      obtain ⟨y1, y2⟩ := (hs.step st).write (ho.trans st.toOld) i es trivial h1 k.2 w1.2 (h3 trivial p rfl) (u := .lst (vs.set m v)) (d' := .ol (ds.set m q)) ⟨p, _, rfl, ⟨k.2, w1.2⟩, upd_same, DtAll.set r1 m (DtAll.up st.up w3)⟩ trivial
      exact q1 _ _ ⟨G2, _, y1, y2, p2⟩
    · exact p2.elim
  · exact hd.elim
end
/-! ### isinstance(e, (A, B)) -/
def dIsi2 (n1 n2 : String) (de : DE) : DE := fun S post => de S fun x => match x.ty with
  | some t => post (.py (.bool (isiT t n1 || isiT t n2)))
  | none => False
section
variable {X : Cx} {B : List Addr} {H0 : Hp} {e : Expr} {de : DE} {p p1 p2 pt pos : Pos} {kt : Nat}
theorem pd_isi2 {n1 n2 : Str} {m1 m2 : String} (T : Bl X.mg) (he : PD X B H0 e de) (hm1 : m1 ∈ ["int", "bool", "str", "list", "tuple"]) (hm2 : m2 ∈ ["int", "bool", "str", "list", "tuple"]) (g1 : Gl X n1) (g2 : Gl X n2) (t1 : X.mg n1 = none) (t2 : X.mg n2 = none) (b1 : bootBuiltins n1 = some (.type m1)) (b2 : bootBuiltins n2 = some (.type m2)) (d1 : n1 ≠ "__name__" := by decide) (d2 : n2 ≠ "__name__" := by decide) (e1 : (n1 == ("__debug__" : Str)) = false := by decide) (e2 : (n2 == ("__debug__" : Str)) = false := by decide)
    (hg : Gl X "isinstance" := by rfl) (s1 : starEach [e, .Tuple [.Name n1 p1, .Name n2 p2] kt pt] X.env = (false, eval e X.env) :: starEach [.Tuple [.Name n1 p1, .Name n2 p2] kt pt] X.env := by rfl) (s2 : starEach [.Tuple [.Name n1 p1, .Name n2 p2] kt pt] X.env = (false, eval (.Tuple [.Name n1 p1, .Name n2 p2] kt pt) X.env) :: starEach [] X.env := by rfl)
    (s3 : starEach [.Name n1 p1, .Name n2 p2] X.env = (false, eval (.Name n1 p1) X.env) :: starEach [.Name n2 p2] X.env := by rfl) (s4 : starEach [.Name n2 p2] X.env = (false, eval (.Name n2 p2) X.env) :: starEach [] X.env := by rfl)
    (hpl : (backTo pos (starEach [.Tuple [.Name n1 p1, .Name n2 p2] kt pt] X.env)).any (·.1) = false := by rfl) : PD X B H0 (.Call (.Name "isinstance" p) [e, .Tuple [.Name n1 p1, .Name n2 p2] kt pt] [] pos) (dIsi2 m1 m2 de) :=
  PEmono (pe_callB call_isiT hg T.isinstance bo_isinstance (pa_cons he (pa_cons (pe_tup (pa_cons (pe_bltn (v := .ty m1) g1 t1 b1 rfl d1 e1) (pa_cons (pe_bltn (v := .ty m2) g2 t2 b2 rfl d2 e2) pa_nil s4) s3)) pa_nil s2) s1) (by decide) (by decide) s1 hpl) fun σ H Q ⟨G, S, post, hs, hd, hq⟩ => by
  refine ⟨G, S, _, hs, hd, fun v d G1 H1 st r1 p1 => ?_⟩
  split at p1
  · next t et =>
    refine ⟨sz1000 (by show 2 ≤ 1000; decide), fun q hq' => ?_⟩
    have nw := Stp.new st.wd hq' (.tup [V.ty m1, V.ty m2])
    refine ⟨v, q, [.ty m1, .ty m2], .type t, [.type m1, .type m2], isiT t m1 || isiT t m2, rfl, upd_same, .cons (.ty m1) (.cons (.ty m2) .nil), ty_x nw.wd (Rp.up nw.toOld r1) et, ?_, hq _ _ _ _ (st.trans nw) (Rp.bl _) p1⟩
    have k1 := kit_ty (K := X.K) (kit_tab t (ty_mem et) m1 hm1)
    have k2 := kit_ty (K := X.K) (kit_tab t (ty_mem et) m2 hm2)
    refine kitAny_cons k1 (r := isiT t m1 || isiT t m2) (fun z => ?_) (fun z => by rw [z]; rfl)
    rw [z, Bool.false_or]
    exact kitAny_cons k2 (r := isiT t m2) (fun z => by rw [z]; exact kitAny_nil) (fun z => z)
  · exact p1.elim
end
end DL
/- ==== DMf ==== -/
/-! DMf: defs that raise: contracts, raise, calls as statements. -/
namespace DL
open PySem PySem.Spec PyProof.Rows PySem.Calls L2 RZ
/-- what is wished of an exception: its class, its own attributes -/
abbrev XP := Value → List (Str × PyData) → Prop
def xD (K : Kf) (G : Hp) (d : Option Addr) (fs : List (Str × PyData)) : Prop := match d with
  | none => fs = []
  | some dx => fs ≠ [] ∧ ∃ vs, G dx = some (.xd vs) ∧ KvR K G vs fs
abbrev CtX := List Addr → List D → (D → Prop) → XP → Prop
def spX (K : Kf) (C : CtX) : Sp := fun vs H Q E => ∃ (B : List Addr) (G : Hp) (ds : List D) (post : D → Prop) (px : XP), Wd K B G H ∧ RpAll K B G H ds vs ∧ C B ds post px ∧
  (∀ v d G' H', Stp K B G H G' H' → Rp K B G' H' d v → post d → Q v H') ∧ ∀ cls d fs G' H', Stp K B G H G' H' → xD K G' d fs → px cls fs → E cls d H'
def CalX (P : Program) (w : World) (K : Kf) (mg : Str → Option Value) (base : Heap) (x : Str) (ps : List Str) (k : Nat) (C : CtX) : Prop := ∃ (f : Addr) (fd : FuncData), mg x = some (.ref f) ∧ FnOk P w K mg base (L2N.CX P w) k f fd ps (spX K C) ∧ PySem.W.keepIn K (.ref f) = true ∧ BindsL K f fd ps
theorem CalX.mono {P : Program} {w : World} {K : Kf} {mg : Str → Option Value} {base : Heap} {x : Str} {ps : List Str} {j k : Nat} {C : CtX} (c : CalX P w K mg base x ps j C) (h : j ≤ k) : CalX P w K mg base x ps k C :=
  let ⟨f, fd, a, b, c, d⟩ := c; ⟨f, fd, a, b.mono h, c, d⟩
theorem CalX.imp {P : Program} {w : World} {K : Kf} {mg : Str → Option Value} {base : Heap} {x : Str} {ps : List Str} {k : Nat} {C C' : CtX} (c : CalX P w K mg base x ps k C) (h : ∀ B ds post px, C' B ds post px → C B ds post px) : CalX P w K mg base x ps k C' :=
  let ⟨f, fd, a, b, c, d⟩ := c; ⟨f, fd, a, b.imp fun vs H Q E ⟨B, G, ds, post, px, h1, h2, h3, h4⟩ => ⟨B, G, ds, post, px, h1, h2, h _ _ _ _ h3, h4⟩, c, d⟩
/-- an exception out of a body that was entered at G0, H0 -/
def wX (K : Kf) (B : List Addr) (G0 H0 : Hp) (px : XP) : WX := fun cls d _ H => ∃ (G : Hp) (fs : List (Str × PyData)), Wd K B G H ∧ Old B G0 H0 G H ∧ xD K G d fs ∧ px cls fs
def lSx (K : Kf) (B : List Addr) (H0 G0 : Hp) (ds : DS) : TS := fun D σ H => ∃ E : DEnds, nxOf K B G0 H0 (ds E) σ H ∧
  (∀ σ' H', nxOf K B G0 H0 E.nx σ' H' → D.nx σ' H') ∧ (∀ v H', rtOf K B G0 H0 E.rt v H' → D.rt v H') ∧ (∀ σ' H', nxOf K B G0 H0 E.bk σ' H' → D.bk σ' H') ∧ (∀ σ' H', nxOf K B G0 H0 E.ct σ' H' → D.ct σ' H')
def lEx (K : Kf) (B : List Addr) (H0 G0 : Hp) (de : DE) : TE := fun σ H Q => ∃ (G : Hp) (S : Slots) (post : D → Prop), Sl K B H0 S σ G H ∧ Old B G0 H0 G H ∧ de S post ∧ ∀ v d G' H', Stp K B G H G' H' → Rp K B G' H' d v → post d → Q v H'
abbrev PDX (X : Cx) (B : List Addr) (H0 G0 : Hp) (st : Stmt) (ds : DS) : Prop := PS X st (lSx X.K B H0 G0 ds)
abbrev PDXs (X : Cx) (B : List Addr) (H0 G0 : Hp) (st : List Stmt) (ds : DS) : Prop := PSs X st (lSx X.K B H0 G0 ds)
abbrev PDXe (X : Cx) (B : List Addr) (H0 G0 : Hp) (e : Expr) (de : DE) : Prop := PE X e (lEx X.K B H0 G0 de)
section
variable {X : Cx} {B : List Addr} {H0 G0 : Hp} {st : Stmt} {rest : List Stmt} {a b : DS} {de : DE} {ta : DT} {pos pos' p : Pos} {e : Expr} {es : List Expr} {ra : DA} {x : Str} {px : XP}
theorem pdx_of (h : PDS X B H0 st a) : PDX X B H0 G0 st a := PSmono h fun D σ H ⟨E, n, q⟩ => ⟨G0, E, n, q⟩
theorem pdx_nox (h : PDSs X.nox B H0 rest a) : PDXs X B H0 G0 rest a := PSsmono (PSs.nox h) fun D σ H ⟨E, n, q⟩ => ⟨G0, E, n, q⟩
theorem pdx_cons (h1 : PDX X B H0 G0 st a) (h2 : PDXs X B H0 G0 rest b) : PDXs X B H0 G0 (st :: rest) (dSeq a b) := PSsmono (pss_cons h1 h2) fun D σ H ⟨E, hn, q1, q2, q3, q4⟩ =>
  ⟨{ E with nx := b E }, hn, fun σ' H' z => ⟨E, z, q1, q2, q3, q4⟩, q2, q3, q4⟩
theorem pdx_one (h1 : PDX X B H0 G0 st a) : PDXs X B H0 G0 [st] a := pss_one h1
theorem pdx_nil : PDXs X B H0 G0 [] dNext := PSsmono pss_nil fun D σ H ⟨E, hn, q1, q2, q3, q4⟩ => q1 σ H hn
theorem pdx_if {c : Expr} {s1 s2 : List Stmt} (hc : PDT X B H0 c ta) (h1 : PDXs X B H0 G0 s1 a) (h2 : PDXs X B H0 G0 s2 b) : PDX X B H0 G0 (.If c s1 s2 pos) (dIfS ta a b) := PSmono (ps_if hc h1 h2) fun D σ H ⟨E, ⟨G, S, hs, ho, hd⟩, q1, q2, q3, q4⟩ => by
  refine ⟨G, S, _, hs, hd, fun k G' H' s p => ?_⟩
  cases k with
  | true =>
    rw [if_pos rfl] at p ⊢
    exact ⟨E, ⟨G', S, hs.step s, ho.trans s.toOld, p⟩, q1, q2, q3, q4⟩
  | false =>
    rw [if_neg Bool.false_ne_true] at p ⊢
    exact ⟨E, ⟨G', S, hs.step s, ho.trans s.toOld, p⟩, q1, q2, q3, q4⟩
theorem pdx_drop (h : PDXe X B H0 G0 e de) (hs : swapsWith e none pos.line X.env = pure false := by rfl) : PDX X B H0 G0 (.Expr e pos) (dDrop de) := PSmono (ps_expr h hs) fun D σ H ⟨E, ⟨G, S, hs, ho, hd⟩, q1, q2, q3, q4⟩ =>
  ⟨G, S, _, hs, ho, hd, fun v d G' H' s r p => q1 _ _ ⟨G', S, hs.step s, ho.trans s.toOld, p⟩⟩
theorem pdx_ret (h : PDXe X B H0 G0 e de) : PDX X B H0 G0 (.Return (some e) pos) (dRet de) := PSmono (ps_ret h) fun D σ H ⟨E, ⟨G, S, hs, ho, hd⟩, q1, q2, q3, q4⟩ => by
  refine ⟨G, S, _, hs, ho, hd, fun v d G' H' s r p => q2 v H' ⟨G', d, s.wd, ho.trans s.toOld, r, ?_⟩⟩
  obtain ⟨n, p⟩ := fre_out p
  exact ⟨fun z => (n z).elim, p⟩
theorem pdx_cal {ps : List Str} {j k : Nat} {C : CtX} (c : CalX X.prog X.w X.K X.mg X.base x ps j C) (tk : L2N.Takes X (wX X.K B G0 H0 px)) (hr : Room k X.A) (ha : PDA X B H0 (e :: es) ra) (hjk : j ≤ k := by decide) (hg : Gl X x := by rfl) (hdb : (x == ("__debug__" : Str)) = false := by decide)
    (he : starEach (e :: es) X.env = (false, eval e X.env) :: starEach es X.env := by rfl) (hpl : (backTo pos (starEach es X.env)).any (·.1) = false := by rfl) : PDXe X B H0 G0 (.Call (.Name x p) (e :: es) [] pos) (fun S post => ra S fun xs => C B xs post px) := by
  obtain ⟨f, fd, hm, F, kp, b⟩ := c
  refine PEmono (pe_callS F (hr.mono hjk) hg hm kp b.1 (fun σ => L2N.passAt tk σ) ha hdb he hpl) fun σ H Q ⟨G, S, post, hs, ho, hd, hq⟩ => ?_
  refine ⟨G, S, _, hs, hd, fun vs xs G1 H1 s1 r1 p1 => ?_⟩
  exact ⟨B, G1, xs, _, px, s1.wd, r1, p1, fun v d G' H' s2 r2 p2 => hq v d G' H' (s1.trans s2) r2 p2, fun cls d fs G' H' s2 x2 p2 => ⟨G', fs, s2.wd, ho.trans (s1.trans s2).toOld, x2, p2⟩⟩
/-- X() of an own class without an __init__ -/
theorem pmk_own0 {C : Addr} {bmB : List Value} {F newId initId : String} (FF : ExcBaseFacts F newId initId bmB) (q : PySem.W.excIn X.K C bmB newId = true) (gC : X.mg x = some (.ref C)) (kC : PySem.W.keepIn X.K (.ref C) = true) (r : Raises X (.ref C)) (hg : Gl X x)
    (hdb : (x == ("__debug__" : Str)) = false := by decide) : L2N.PMk X (.Call (.Name x p) [] [] pos) (fun _ H Q => Q (.ref C) none H) := by
  intro pins s σ H Q I h
  refine wpAny_Call_Name_kw (ld_glob I hg gC ?_ hdb)
  refine PySem.W.callWith_K0 I.kIn kC ?_
  obtain ⟨bm, N, nm, qn, bs, hdct, sn, sub, ab, col, dd, k0, k1, k2, k3, k5, mN, hC, hN, hni, T⟩ := exc_obj I.kIn q
  refine wpAny_call_exc_subT FF T hC hN hni (fun h' e hm => ?_) (Nat.zero_le _)
  exact L2N.mk_of I hm r h (I.hok.gone hm.new)
/-- what the written part says of an own exception class at C -/
structure ExcK (K : Kf) (mg : Str → Option Value) (x : Str) (C : Addr) : Prop where
  g : mg x = some (.ref C)
  q : PySem.W.excIn K C He.veBase "ValueError.__new__" = true
  kp : PySem.W.keepIn K (.ref C) = true
  sb : PySem.W.subIn K (.ref C) (.type "BaseException") = some true
  ty : PySem.W.typeIn K (.ref C) = some (.type "type")
theorem pdx_raise {C : Addr} (hc : X.calm = true) (tk : L2N.Takes X (wX X.K B G0 H0 px)) (T : ExcK X.K X.mg x C) (hg : Gl X x := by rfl) (hdb : (x == ("__debug__" : Str)) = false := by decide) : PDX X B H0 G0 (.Raise (some (.Call (.Name x p) [] [] pos)) none pos') (fun _ _ => px (.ref C) []) :=
  PSmono (L2N.ps_raise hc tk (pmk_own0 PySem.F.excBase_ValueError T.q T.g T.kp (raises_own T.sb T.ty) hg hdb)) fun D σ H ⟨E, ⟨G, S, hs, ho, hd⟩, _⟩ => ⟨G, [], hs.wd, ho, rfl, hd⟩
end
theorem calDX {P : Program} {w : World} {K : Kf} {mg : Str → Option Value} {base : Heap} {x : Str} {st : Stmt} {N ps : List Str} {k : Nat} {C : CtX} (d : Def K mg x st) (S : FnScope N ps (defScope st)) (len : ∀ B ds post px, C B ds post px → ds.length = ps.length ∧ ∀ d ∈ ds, ¬ d.own)
    (hb : ∀ (dV kV doc pm : Value) (an : Option Addr) (cdv ct : Value) (us : List Value), us.length = ps.length → bindArgs (PySem.W.fnOf x x (defArgs st) (defBody st) (defScope st) .none kV doc pm an cdv ct) ⟨us, []⟩ = pure (ps.zip us))
    (hbody : ∀ (f : Addr) (cdv : Value) (A : Around) (outer : List Env) (s : Shared) (H : Hp) (E : XK) (B : List Addr) (G : Hp) (ds : List D) (post : D → Prop) (px : XP), Room k (A.deeper (envOfC x (defScope st) s.heap.objs.size f cdv)) → L2N.Takes (cxOf (L2N.CX P w) P w K mg base N x (defScope st) f cdv A outer s H E) (wX K B G H px) → C B ds post px →
      ∃ t, PDXs (cxOf (L2N.CX P w) P w K mg base N x (defScope st) f cdv A outer s H E) B H G (defBody st) t ∧ t { nx := fun _ => post (.py .none), rt := post } (startS N.length ds)) : CalX P w K mg base x ps (k + 1) C := by
  obtain ⟨f, fd, hm, F⟩ := d
  refine ⟨f, fd, hm, F.ok S (fun vs H Q E h => ?_) (fun cdv A outer s H vs Q E hr h => ?_), F.kp, BindsL.of F (FunD.bindsN F fun kV doc pm an cdv ct us hl => hb .none kV doc pm an cdv ct us hl)⟩
  · obtain ⟨B, G, ds, post, px, _, r, c, _⟩ := h
    rw [← r.length]; exact (len B ds post px c).1
  · obtain ⟨B, G, ds, post, px, wd, r, c, hq, hx⟩ := h
    have tk : L2N.Takes (cxOf (L2N.CX P w) P w K mg base N x (defScope st) f cdv A outer s H E) (wX K B G H px) := (L2N.takes_of rfl rfl rfl rfl).imp fun cls d σ H' ⟨G', fs, h1, h2, h3, h4⟩ => hx cls d fs G' H' ⟨h2, h1⟩ h3 h4
    obtain ⟨t, ht, q⟩ := hbody f cdv A outer s H E B G ds post px hr tk c
    refine ⟨_, ht, ⟨_, ⟨G, _, sl_start wd r (len B ds post px c).2, Old.refl, q⟩, fun σ' H' ⟨G', S', h1, h2, h3⟩ => ?_, fun v H' ⟨G', d, h1, h2, h3, _, h4⟩ => ?_, fun _ _ ⟨_, _, _, _, z⟩ => z, fun _ _ ⟨_, _, _, _, z⟩ => z⟩⟩
    · exact hq .non (.py .none) G' H' ⟨h2, h1.wd⟩ Rp.non h3
    · exact hq v d G' H' ⟨h2, h1⟩ h3 h4
/-- right arguments, wrong ones -/
theorem CalX.either {P : Program} {w : World} {K : Kf} {mg : Str → Option Value} {base : Heap} {x : Str} {ps : List Str} {i j k : Nat} {C : Ct} {C' : CtX} (c : Cal P w K mg base x ps i C) (z : CalX P w K mg base x ps j C') (h1 : i ≤ k) (h2 : j ≤ k) :
    CalX P w K mg base x ps k (fun B ds post px => C B ds post ∨ C' B ds post px) := by
  obtain ⟨f, fd, hm, F, kp, b, oc, od, osl, lk⟩ := c
  obtain ⟨f', fd', hm', F', _, _, oc', od', osl', lk'⟩ := z
  rw [hm] at hm'; cases hm'
  rw [lk] at lk'; cases lk'
  have F := F.mono h1
  have F' := F'.mono h2
  refine ⟨f, fd, hm, ⟨fun vs H Q E h => ?_, fun A outer s H args us vs Q E hr he hb hv h => ?_⟩, kp, b, oc, od, osl, lk⟩
  · obtain ⟨B, G, ds, post, px, q1, q2, q3 | q3, q4⟩ := h
    · exact F.len vs H Q E ⟨B, G, ds, post, q1, q2, q3, q4.1⟩
    · exact F'.len vs H Q E ⟨B, G, ds, post, px, q1, q2, q3, q4⟩
  · obtain ⟨B, G, ds, post, px, q1, q2, q3 | q3, q4⟩ := h
    · refine codeAny_mono (F.run A outer s H args us vs Q E hr he hb hv ⟨B, G, ds, post, q1, q2, q3, q4.1⟩) fun r s' q => ?_
      cases r with
      | ok fl => cases fl <;> exact q
      | error e => exact q.elim
    · exact F'.run A outer s H args us vs Q E hr he hb hv ⟨B, G, ds, post, px, q1, q2, q3, q4⟩
end DL
/- ==== DMg ==== -/
/-! DMg: a lambda that captures nothing: made, called through a local. -/
namespace DL
open PySem PySem.Spec PyProof.Rows PySem.Calls L2 RZ
theorem clo_none (cells : List (Str × Addr)) : ∀ (names : List (Str × NameKind)) (acc : List (Str × Addr)), (∀ y ∈ names, y.2 ≠ .free) → cloFrom cells names acc = acc
  | [], acc, _ => rfl
  | (n, k) :: r, acc, h => by
    have hk : k ≠ .free := h (n, k) (List.mem_cons_self ..)
    have ih := clo_none cells r acc fun y hy => h y (List.mem_cons_of_mem _ hy)
    unfold cloFrom
    cases k <;> first | exact absurd rfl hk | exact ih
/-- a new object that an outside fact describes -/
theorem fun_ok {P : Program} {w : World} {H : Hp} {h : Heap} {f c' : Addr} {pm ctv : Value} {L : LamD} (e : h.get? f = some (PySem.W.kla_obj "<lambda>" L.q L.params L.body L.scope [] pm c' ctv)) : ObjOk P w H h f (FunO f c' pm ctv L) :=
  ⟨e, ⟨_, e⟩, fun _ _ z st => st _ z⟩
section
variable {X : Cx} {pins : List (Addr × Obj)} {σ : L2.St} {H : Hp} {s : Shared}
/-- the lambda is made: its code object is new and told by the table from now on, or found there -/
theorem lam_made {c T : Addr} {ps : Array Value} {L : LamD} {pos : Pos} {E : Value → Shared → Prop} {Q : Value → Shared → Prop} (I : Inv X pins σ H s) (TB : LamX.TabB X.base X.mg c T) (hcode : X.env.code = .ref c) (hq : X.env.qual ++ "<lambda>" = L.q)
    (hT : H T = some (.tbl ps)) (ht : TriplesOk ps.toList) (ha : ∀ (p : Pos) (cv : Value), codeAmong p ps.toList = some cv → ∃ c', cv = .ref c' ∧ H c' = some (LamX.CodeO c' L.q)) (hdef : defaultsOf L.params X.env = ([], [])) (hfree : ∀ y ∈ L.scope.names, y.2 ≠ .free)
    (h : ∀ (f c' : Addr) (pm ctv : Value) (H1 : Hp) (s' : Shared), Inv X pins σ (upd H1 f (FunO f c' pm ctv L)) s' → H1 f = none → H1 c' = some (LamX.CodeO c' L.q) →
      ((H1 = H ∧ codeAmong pos ps.toList = some (.ref c')) ∨ ∃ ps' : Array Value, H c' = none ∧ c' ≠ T ∧ H1 = upd (upd H T (.tbl ps')) c' (LamX.CodeO c' L.q) ∧ TriplesOk ps'.toList ∧ ∀ (p : Pos) (cv : Value), codeAmong p ps'.toList = some cv → codeAmong p ps.toList = some cv ∨ cv = .ref c') → Q (.ref f) s') :
    wpAny (model X.prog X.w) X.A (eval (.Lambda L.params L.body L.scope pos) X.env) Q E s := by
  refine PySem.W.kla_eval hdef ?_
  rw [hq]
  have hcl : closureFor L.scope X.env = pure [] := by
    have z := closure_ok (scope := L.scope) (env := X.env) fun y hy e => absurd e (hfree y hy)
    rw [clo_none _ _ _ hfree] at z
    exact z
  have hTs : s.heap.get? T = some { cls := .none, data := .fields ps } := I.hok T _ hT
  have bT : s.heap.BuiltinsAt X.mg T := TB.bm.keeps I.bk
  have gT := I.mod.glob.keeps I.bk
  cases hc : codeAmong pos ps.toList with
  | none =>
    refine PySem.W.kla_makeFunction (mg := X.mg) (c := c) (P := T) (ps := ps) hcl I.ok.glob gT hcode (TB.code.keeps I.bk) hTs ht hc TB.gP bT fun c' ctv h' tk hx hge hlt hrec htb => ?_
    obtain ⟨c2, oc, vs, t, e2, hoc, hd, hv⟩ := hrec
    cases e2
    have nC : H c' = none := I.hok.fresh hge
    have nTc : c' ≠ T := fun z => by rw [z, hT] at nC; cases nC
    have I0 := LamX.inv_table (t' := tk) (more := #[rawInt pos.line, rawInt pos.col, .ref c']) (h' := h') (q := L.q) I hT hx htb hge ⟨oc, vs, t, hoc, hd, hv⟩
    have I1 := I0.laid (t' := tk) (a := h'.objs.size) (o := FunO h'.objs.size c' ((X.mg "__name__").getD .none) ctv L) (h' := h'.push (PySem.W.kla_obj "<lambda>" L.q L.params L.body L.scope [] ((X.mg "__name__").getD .none) c' ctv)) (fun b u e => Heap.get?_push_of_some _ e) (Nat.le_refl _) (fun_ok (Heap.get?_push_size _ rfl))
    have eL : (ps ++ #[rawInt pos.line, rawInt pos.col, Value.ref c']).toList = ps.toList ++ [rawInt pos.line, rawInt pos.col, .ref c'] := by simp
    refine h _ c' _ ctv _ _ I1 (I0.hok.fresh (Nat.le_refl _)) upd_same (.inr ⟨_, nC, nTc, rfl, by rw [eL]; exact PySem.TriplesOk_snoc _ _ _ _ ht, fun p cv z => ?_⟩)
    rw [eL] at z
    exact LamX.among_app _ ht z
  | some cv =>
    obtain ⟨c', e, hco⟩ := ha pos cv hc
    subst e
    refine PySem.W.kla_makeFunctionHit (mg := X.mg) (c := c) (P := T) (ps := ps) hcl I.ok.glob gT hcode (TB.code.keeps I.bk) hTs ht hc bT fun ctv h' tk hx hsz => ?_
    have I0 : Inv X pins σ H { s with heap := h', toks := tk } := I.kept hx
    have I1 := I0.laid (t' := tk) (a := h'.objs.size) (o := FunO h'.objs.size c' ((X.mg "__name__").getD .none) ctv L) (h' := h'.push (PySem.W.kla_obj "<lambda>" L.q L.params L.body L.scope [] ((X.mg "__name__").getD .none) c' ctv)) (fun b u e => Heap.get?_push_of_some _ e) (Nat.le_refl _) (fun_ok (Heap.get?_push_size _ rfl))
    exact h _ c' _ ctv H _ I1 (I0.hok.fresh (Nat.le_refl _)) hco (.inl ⟨rfl, hc⟩)
/-- over data -/
def dLam (L : LamD) : DE := fun _ post => post (.fn L)
theorem pd_lam {c T : Addr} {bs : List Addr} {H0 : Hp} {L : LamD} {pos : Pos} (TB : LamX.TabB X.base X.mg c T) (hcode : X.env.code = .ref c) (hq : X.env.qual ++ "<lambda>" = L.q) (hl : L.q = qlam) (hdef : defaultsOf L.params X.env = ([], [])) (hfree : ∀ y ∈ L.scope.names, y.2 ≠ .free) :
    PD X (T :: bs) H0 (.Lambda L.params L.body L.scope pos) (dLam L) := by
  refine ⟨fun pins s σ H Q I ⟨G, S, post, hs, hd, hq'⟩ => ?_⟩
  obtain ⟨gT, ps, hT, ht, ha⟩ := hs.wd.tab
  refine lam_made I TB hcode hq hT ht (fun p cv z => ?_) hdef hfree fun f c' pm ctv H1 s' I1 hf hc' hcase => ?_
  · obtain ⟨c', e1, e2⟩ := ha p cv z
    exact ⟨c', e1, by rw [hl]; exact hs.wd.sub _ _ e2⟩
  have nf : f ≠ c' := fun z => by rw [z, hc'] at hf; cases hf
  -- the stable part that the new heap has
  have key : ∃ G1, Stp X.K (T :: bs) G H G1 H1 ∧ G1 c' = some (LamX.CodeO c' L.q) := by
    rcases hcase with ⟨rfl, hmem⟩ | ⟨ps', nC, ncT, rfl, ht', ha'⟩
    · obtain ⟨c2, e1, e2⟩ := ha pos _ hmem
      cases e1
      exact ⟨G, Stp.refl hs.wd, by rw [hl]; exact e2⟩
    · have gC : G c' = none := hs.wd.sub.free nC
      have up : Same G (upd G c' (LamX.CodeO c' L.q)) := Same.updN gC
      refine ⟨upd G c' (LamX.CodeO c' L.q), ⟨⟨up, fun a o ho hg hb => ?_⟩, ⟨fun a o ho => ?_, fun b hb => ?_⟩⟩, upd_same⟩
      · have n1 : a ≠ c' := ne_of_none ho nC
        have n2 : a ≠ T := fun z => hb (by rw [z]; exact List.mem_cons_self ..)
        rw [upd_ne n1, upd_ne n2, upd_ne n1]; exact ⟨ho, hg⟩
      · by_cases z : a = c'
        · subst z; rw [upd_same] at ho ⊢; exact ho
        · rw [upd_ne z] at ho ⊢
          rw [upd_ne (ne_of_none ho gT)]; exact hs.wd.sub _ _ ho
      · obtain ⟨y1, y2⟩ := hs.wd.bags b hb
        obtain ⟨u, hu⟩ := y2.some
        have n1 : b ≠ c' := ne_of_none hu nC
        refine ⟨by rw [upd_ne n1]; exact y1, ?_⟩
        by_cases z : b = T
        · subst z
          refine .inr ⟨rfl, ps', by rw [upd_ne n1, upd_same], ht', fun p cv hcv => ?_⟩
          rcases ha' p cv hcv with k | k
          · obtain ⟨c2, e1, e2⟩ := ha p cv k
            exact ⟨c2, e1, up _ _ e2⟩
          · exact ⟨c', k, by rw [← hl]; exact upd_same⟩
        · exact y2.up up (by rw [upd_ne n1, upd_ne z])
  obtain ⟨G1, st, hg1⟩ := key
  have st2 := Stp.new st.wd hf (FunO f c' pm ctv L)
  exact ⟨.ref f, _, I1, rfl, hq' _ (.fn L) _ _ (st.trans st2) ⟨f, c', pm, ctv, rfl, upd_same, by rw [upd_ne (Ne.symm nf)]; exact hg1⟩ hd⟩
end
end DL
/- ==== DMh ==== -/
/-! DMh: such a lambda called. -/
namespace DL
open PySem PySem.Spec PyProof.Rows PySem.Calls L2 RZ
/-- the lambda L, wherever its objects stand, keeps the contract C -/
structure LamCal (P : Program) (w : World) (K : Kf) (mg : Str → Option Value) (base : Heap) (L : LamD) (k n : Nat) (C : CtX) : Prop where
  len : ∀ B ds post px, C B ds post px → ds.length = n ∧ ∀ d ∈ ds, ¬ d.own
  run : ∀ (f c' : Addr) (pm ctv : Value) (A : Around) (outer : List Env) (s : Shared) (H : Hp) (us : List Value) (vs : List V) (Q : VK) (E : XK), Room k A → Env0 P w K mg base A outer s H →
    s.heap.get? f = some (PySem.W.kla_obj "<lambda>" L.q L.params L.body L.scope [] pm c' ctv) → s.heap.CodeRec (.ref c') L.q → Vals vs us → spX K C vs H Q E → codeAny (model P w) A (.call (.ref f) ⟨us, []⟩) (CR (L2N.CX P w) outer P w H s Q E) s
theorem lam_cal {P : Program} {w : World} {K : Kf} {mg : Str → Option Value} {base : Heap} {L : LamD} {N ps : List Str} {k : Nat} {C : CtX} (S : FnScope N ps L.scope) (len : ∀ B ds post px, C B ds post px → ds.length = ps.length ∧ ∀ d ∈ ds, ¬ d.own)
    (hbind : ∀ (pm : Value) (c' : Addr) (ctv : Value) (us : List Value), us.length = ps.length → bindArgs (PySem.W.kla_fn "<lambda>" L.q L.params L.body L.scope [] pm (.ref c') ctv) ⟨us, []⟩ = pure (ps.zip us))
    (hbody : ∀ (f c' : Addr) (A : Around) (outer : List Env) (s : Shared) (H : Hp) (E : XK) (B : List Addr) (G : Hp) (ds : List D) (post : D → Prop) (px : XP), Room k (A.deeper (envOfC L.q L.scope s.heap.objs.size f (.ref c'))) → L2N.Takes (cxOf (L2N.CX P w) P w K mg base N L.q L.scope f (.ref c') A outer s H E) (wX K B G H px) → C B ds post px →
      ∃ de, PDXe (cxOf (L2N.CX P w) P w K mg base N L.q L.scope f (.ref c') A outer s H E) B H G L.body de ∧ de (startS N.length ds) post) : LamCal P w K mg base L (k + 1) ps.length C := by
  refine ⟨len, fun f c' pm ctv A outer s H us vs Q E hr e0 ho hcr rv h => ?_⟩
  obtain ⟨B, G, ds, post, px, wd, r, c, hq, hx⟩ := h
  have hl : vs.length = ps.length := by rw [← r.length]; exact (len B ds post px c).1
  have hlu : us.length = ps.length := by rw [← rv.length]; exact hl
  have lim : s.heap.NoLimit := e0.mod.nolimit.keeps fun b o e => (e0.bs b o e).1
  have hkind : ∀ y ∈ ps.zip us, L.scope.names.lookup y.1 = some .local ∨ (L.scope.names.lookup y.1 = some .cell ∧ ((cellsFrom (s.heap.objs.size + 1) L.scope.names []).lookup y.1).isSome = true) := fun ⟨n, v⟩ hy => by
    rcases S.par n (List.of_mem_zip hy).1 with q | q
    · exact .inl q
    · exact .inr ⟨q, PySem.W.cellsFrom_some _ _ _ (.inl q)⟩
  refine PySem.W.kla_callFunE hr.depth ho rfl S.co S.gen rfl hcr ?_
  rw [hbind pm c' ctv us hlu]
  refine wpAny_pure (wpAny_newFunctionEnv_cells S.kind hkind fun env he s1 x => ?_)
  subst he
  refine ⟨lim.keeps x.toInCall.keep, ?_⟩
  have tk : L2N.Takes (cxOf (L2N.CX P w) P w K mg base N L.q L.scope f (.ref c') A outer s H E) (wX K B G H px) := (L2N.takes_of rfl rfl rfl rfl).imp fun cls d σ H' ⟨G', fs, h1, h2, h3, h4⟩ => hx cls d fs G' H' ⟨h2, h1⟩ h3 h4
  obtain ⟨de, hd, q⟩ := hbody f c' A outer s H E B G ds post px (hr.deeper _) tk c
  have I : Inv (cxOf (L2N.CX P w) P w K mg base N L.q L.scope f (.ref c') A outer s H E) [] (L2.start N vs) H s1 := inv_start S hr.hd e0 hl rv x
  refine PySem.W.kla_codeExpr (wpAny_mono (hd.run [] s1 _ H Q I ⟨G, _, post, sl_start wd r (len B ds post px c).2, Old.refl, q, fun v d G' H' st rp p => hq v d G' H' st rp p⟩) (fun v s' hv => ?_) fun e s' he => he)
  obtain ⟨v', H', J, rv', q'⟩ := hv
  exact ⟨v', H', J.os, J.bare, J.base, J.hok, rv', q'⟩
section
variable {X : Cx} {B : List Addr} {H0 G0 : Hp} {pos p : Pos} {e : Expr} {es : List Expr} {ra : DA} {x : Str} {px : XP}
/-- x(e, ..), x a local that holds a lambda; V: what is wished of an error -/
def tCallFn (P : Program) (w : World) (K : Kf) (mg : Str → Option Value) (base : Heap) (B : List Addr) (H0 : Hp) (k i : Nat) (V : WX) (ra : DA) : TE := fun σ H Q => ∃ (G : Hp) (S : Slots) (L : LamD) (j n : Nat) (C : CtX) (post : D → Prop) (px : XP), Sl K B H0 S σ G H ∧ S[i]? = some (some (.fn L)) ∧ LamCal P w K mg base L j n C ∧ j ≤ k ∧
  (ra S fun xs => C B xs post px) ∧ (∀ v d G' H', Stp K B G H G' H' → Rp K B G' H' d v → post d → Q v H') ∧ ∀ cls d fs G' H', Stp K B G H G' H' → xD K G' d fs → px cls fs → V cls d σ H'
theorem pe_callFn {i k : Nat} {V : WX} (hN : X.N[i]? = some x) (hv : Vis X.env.scope x) (tk : L2N.Takes X V) (hr : Room k X.A) (ha : PDA X B H0 (e :: es) ra) (hd : (x == ("__debug__" : Str)) = false := by decide) (hcd : (x == ("__classdict__" : Str)) = false := by decide)
    (he : starEach (e :: es) X.env = (false, eval e X.env) :: starEach es X.env := by rfl) (hpl : (backTo pos (starEach es X.env)).any (·.1) = false := by rfl) : PE X (.Call (.Name x p) (e :: es) [] pos) (tCallFn X.prog X.w X.K X.mg X.base B H0 k i V ra) := by
  refine ⟨fun pins s σ H Q I ⟨G, S, L, j, n, C, post, px, hs, hS, hL, hj, hra, hq, hx⟩ => ?_⟩
  obtain ⟨v, hσ, ⟨f, c', pm, ctv, rfl, gf, gc⟩, _⟩ := hs.slot i _ hS
  refine wpAny_Call_Name_kw (thn ((pe_var (pos := p) (i := i) hN hv hd hcd).run pins s σ H (fun v H1 => v = .ref f ∧ H1 = H) I ⟨.ref f, hσ, rfl, rfl⟩) fun u s1 ⟨v, H1, I1, r1, q1⟩ => ?_)
  obtain ⟨ev, eH⟩ := q1
  subst ev
  rw [eH] at I1
  obtain rfl : u = Value.ref f := r1
  have at_ : ∀ {pins' : List (Addr × Obj)} {σ' : L2.St} {H' : Hp} {s' : Shared}, Inv X pins' σ' H' s' → H' f = some (FunO f c' pm ctv L) → s'.heap.get? f = some (PySem.W.kla_obj "<lambda>" L.q L.params L.body L.scope [] pm c' ctv) := fun I' h' => (I'.hok f _ h').1
  refine PySem.W.callWith_F ⟨_, _, _, _, at_ I1 (hs.wd.sub _ _ gf)⟩ (thn (ha.run pos pins s1 σ H _ I1 ⟨G, S, _, hs, hra, fun vs xs G1 H1 st1 rr hc => (⟨G1, xs, st1, rr, hc⟩ : ∃ G1 xs, Stp X.K B G H G1 H1 ∧ RpAll X.K B G1 H1 xs vs ∧ C B xs post px)⟩) fun us s2 ⟨vs, H2, I2, r2, G2, xs, st2, rr, hc⟩ => ?_) he hpl
  have hf2 := at_ I2 (st2.wd.sub _ _ (st2.up _ _ gf))
  refine ⟨⟨_, _, _, _, hf2⟩, ?_⟩
  obtain ⟨⟨oc, wv, t, hoc, hdc, hvc⟩, _, _⟩ := I2.hok c' _ (st2.wd.sub _ _ (st2.up _ _ gc))
  refine wpAny_call (codeAny_mono (hL.run f c' pm ctv X.A X.stack s2 H2 us vs Q (WE V σ) (hr.mono hj) I2.env0 hf2 ⟨c', oc, wv, t, rfl, hoc, hdc, hvc⟩ r2 ⟨B, G2, xs, post, px, st2.wd, rr, hc, fun v d G' H' s3 r3 p3 => hq v d G' H' (st2.trans s3) r3 p3, fun cls d fs G' H' s3 x3 p3 => hx cls d fs G' H' (st2.trans s3) x3 p3⟩) fun r s' hr' => ?_)
  cases r with
  | error e => exact L2N.passAt tk σ pins H2 s2 e s' I2 hr'
  | ok fl =>
    cases fl with
    | ret u => exact I2.after hr'
    | next => exact False.elim hr'
    | brk => exact False.elim hr'
    | cont => exact False.elim hr'
end
end DL
/- ==== DMi ==== -/
/-! DMi: several except clauses that name the error. -/
namespace DL
open PySem PySem.Spec PyProof.Rows PySem.Calls L2 RZ
abbrev Clauses := List (Value × (Addr → Value → Option Addr → TS))
/-- the clauses one behind another, each with the error in slot i -/
def wAll (K : Kf) (i : Nat) (D : Ends) : Clauses → WX → WX
  | [], W => W
  | (c, ts) :: r, W => wAs K c i ts (wAll K i D r W) D
inductive HdsAs (X : Cx) (n : Str) : List ExceptHandler → Clauses → Prop
  | nil : HdsAs X n [] []
  | cons {x : Str} {c : Value} {ts : Addr → Value → Option Addr → TS} {b₀ : Stmt} {suite : List Stmt} {np hp : Pos} {r : List ExceptHandler} {l : Clauses} (named : Names X x c)
      (su : ∀ (a : Addr) (oe : Obj) (cls : Value) (d : Option Addr) (pn : List (Addr × Obj)), L2N.Zn cls d oe → (∃ vs, oe.data = .fields vs) → PSs (X.suite a ((a, oe) :: pn)) (b₀ :: suite) (ts a cls d)) (rest : HdsAs X n r l) :
      HdsAs X n (.ExceptHandler (some (.Name x np)) (some n) (b₀ :: suite) hp :: r) ((c, ts) :: l)
section
variable {X : Cx} {n : Str} {i : Nat} {pins : List (Addr × Obj)} {D : Ends} {a : Addr} {Gr : Heap} {cls : Value} {d : Option Addr} {sI : Shared} {σ : L2.St} {H : Hp}
/-- what holds of a landed error at the heap h: noted in the def's frame, the state aside unchanged -/
structure Landed (X : Cx) (pins : List (Addr × Obj)) (a : Addr) (Gr : Heap) (cls : Value) (d : Option Addr) (sI : Shared) (σ : L2.St) (H : Hp) (h : Heap) : Prop where
  inv : Inv X pins σ H sI
  gr : ∀ b o, sI.heap.get? b = some o → b ∉ frs X.stack → Gr.get? b = some o
  up : sI.heap.UpToSlots h
  fl : HandSPX.FlyingZ Gr (X.env :: X.outer) a (L2N.Zn cls d) h
  na : H a = none
/-- clause by clause -/
theorem clauses_run (hs : X.stack = X.env :: X.outer) (hf : X.env.frame = some X.env.locals) (hN : X.N.Nodup) (hi : X.N[i]? = some n) (hln : X.env.kindOf n = some .local) {W : WX} (tk : L2N.Takes X W) {g : Array GenState} {dr : Drawn} {tks : Nat} {os : OsState} (ho : os = sI.os) (hb : AllBare g) :
    ∀ {hds : List ExceptHandler} {l : Clauses}, HdsAs X n hds l → ∀ {h : Heap}, Landed X pins a Gr cls d sI σ H h → wAll X.K i D l W cls d σ H →
      wpAny (model X.prog X.w) X.A (handleBy (.ref a) X.env hds) (SP X pins D) X.xe ⟨h, g, dr, tks, os⟩ := by
  intro hds l hk
  induction hk with
  | nil =>
    intro h Ld w
    refine wpAny_handleBy_nil ?_
    have fl := Ld.fl
    obtain ⟨_, _, _, oe, vs, T, _, _, he, _, hd, h1, _⟩ := id fl
    unfold PySem.passOn
    refine wpAny_bind (wpAny_field he hd h1 ?_)
    rw [if_neg (show ¬ ((Value.ref T == Value.none) = true) from by simp)]
    have last : wpAny (model X.prog X.w) X.A (setFlight (.ref a) X.env.frame) (fun _ s4 => wpAny (model X.prog X.w) X.A (throw (.ref a) : Sem Flow) (SP X pins D) X.xe s4) X.xe ⟨h, g, dr, tks, os⟩ := by
      rw [hf]
      exact HandSPX.setFlight_upZ fl fun h4 held up4 => wpAny_throw (tk _ _ ⟨a, Gr, sI, pins, σ, H, cls, d, rfl, Ld.inv, Ld.gr, Ld.up.trans up4, .inr (.inr (by rw [hs]; exact held)), Ld.na, ho, hb, w⟩)
    first
      | exact wpAny_bind (wpAny_pure (wpAny_bind last))
      | exact wpAny_bind last
  | @cons x c ts b₀ suite np hp r l2 named su rest ih =>
    intro h Ld w
    obtain ⟨b, e1, yes, no⟩ := w
    have fl := Ld.fl
    have ok := Ld.inv.ok
    have J := Ld.inv.landed (s' := ⟨h, g, dr, tks, os⟩) Ld.gr fl.1 Ld.up ho hb
    obtain ⟨oe, vs, he, hz, hd⟩ := fl.there
    -- the error is none of the frames
    have away : a ∉ frs (X.env :: X.outer) := fun hm => by
      obtain ⟨_, o', e', nf⟩ := fl.2.2.1.mem hm
      rw [he] at e'; cases e'
      exact nf _ hd
    have aL : a ≠ X.env.locals := fun z => away (List.mem_filterMap.mpr ⟨X.env, List.mem_cons_self, by rw [hf, z]⟩)
    have aF : a ∉ X.fs := fun hm => by
      obtain ⟨e, q1, q2⟩ := List.mem_filterMap.mp hm
      exact away (List.mem_filterMap.mpr ⟨e, List.mem_cons_of_mem _ q1, q2⟩)
    have JS := J.suite he hd Ld.na aL aF
    refine wpAny_handleBy_cons (codeAny_handlers_test ?_) (by intro q; cases q)
    have ty : PySem.W.Looks (model X.prog X.w) h (typeOf (.ref a)) cls := fun A Q E s k q => wpAny_typeOf_ref (k _ _ he) (by rw [hz.1]; exact q)
    have look := PySem.W.exm_one (M := model X.prog X.w) J.kIn ty e1
    have asked : ∀ {Q E : Value → Shared → Prop}, Q c ⟨h, g, dr, tks, os⟩ → wpAny (model X.prog X.w) (X.A.mark (some (.ref a))) (eval (.Name x np) X.env) Q E ⟨h, g, dr, tks, os⟩ := fun {Q E} q => by
      obtain ⟨k1, k2, k3 | ⟨k3, k4, k5⟩⟩ := named
      · exact ld_glob (X := X.suite a ((a, oe) :: (X.pn ++ pins))) JS k1 k3 q k2
      · exact ld_blt (X := X.suite a ((a, oe) :: (X.pn ++ pins))) JS k1 k3 k4 q k5 k2
    refine asked (look.here ?_)
    cases b with
    | false =>
      show wpAny _ X.A (handleBy (.ref a) X.env r) _ _ _
      exact ih Ld (no rfl)
    | true =>
      refine codeAny_handlers_suite_as (HandSPX.lands_againZ fl fun h4 fl4 up4 => ?_)
      have J4 := Ld.inv.landed (s' := ⟨h4, g, dr, tks, os⟩) Ld.gr fl4.1 (Ld.up.trans up4) ho hb
      obtain ⟨oe4, vs4, he4, hz4, hd4⟩ := fl4.there
      refine store_ok (X := X.suite a ((a, oe4) :: (X.pn ++ pins))) (v := .ref a) (J4.suite he4 hd4 Ld.na aL aF) hN hi (.inl hln) rfl (fun s5 S5 => ?_) (.inr hln)
      refine wpAny_mono ((su a oe4 cls d (X.pn ++ pins) hz4 ⟨_, hd4⟩).run [] s5 _ H _ S5 (yes rfl a Ld.na)) (fun f s6 sp => ?_) fun _ _ z => False.elim z
      have out : ∀ {σ6 : L2.St} {H6 : Hp} {Q : Shared → Prop}, Inv (X.suite a ((a, oe4) :: (X.pn ++ pins))) [] σ6 H6 s6 → (∀ s7, Inv X pins (σ6.set i none) H6 s7 → Q s7) →
          wpAny (model X.prog X.w) X.A (do bindName X.env n .none; unbindBehindTheSuite X.env n hp) (fun _ s7 => Q s7) X.xe s6 := fun {σ6 H6 Q} S6 q => gone_ok (S6.unsuite ok) hN hi hln q
      cases f with
      | next => obtain ⟨σ6, H6, S6, q6⟩ := sp; exact out S6 fun s7 J7 => ⟨_, _, J7, q6⟩
      | brk => obtain ⟨σ6, H6, S6, q6⟩ := sp; exact out S6 fun s7 J7 => ⟨_, _, J7, q6⟩
      | cont => obtain ⟨σ6, H6, S6, q6⟩ := sp; exact out S6 fun s7 J7 => ⟨_, _, J7, q6⟩
      | ret u => obtain ⟨v6, σ6, H6, S6, r6, q6⟩ := sp; exact out S6 fun s7 J7 => ⟨_, _, _, J7, r6, q6⟩
variable {body : List Stmt} {h₀ : ExceptHandler} {hds : List ExceptHandler} {l : Clauses} {pos : Pos} {tb : WX → TS} {W : WX}
theorem ps_try_all (hs : X.stack = X.env :: X.outer) (hf : X.env.frame = some X.env.locals) (hN : X.N.Nodup) (hi : X.N[i]? = some n) (hln : X.env.kindOf n = some .local) (tk : L2N.Takes X W)
    (hb : ∀ (V : WX) (pn : List (Addr × Obj)) (xe : Value → Shared → Prop), L2N.Takes (X.tr pn xe) V → PSs (X.tr pn xe) body (tb V)) (hh : HdsAs X n (h₀ :: hds) l) :
    PS X (.Try body (h₀ :: hds) [] [] pos) (fun D σ H => tb (wAll X.K i D l W) D σ H) := by
  refine ⟨fun pins s σ H D I h => wpAny_Try_except ?_⟩
  have ok := I.ok
  have hfr : X.A.frames = some (X.env :: X.outer) := by rw [ok.frames, hs]
  refine wpAny_mono ((hb (wAll X.K i D l W) (X.pn ++ pins) (fun e s₁ => wpAny (model X.prog X.w) X.A (noteFrame e X.env) (fun _ s₂ => wpAny (model X.prog X.w) X.A (setFlight e none) (fun _ s₃ =>
    wpAny (model X.prog X.w) X.A (handleBy e X.env (h₀ :: hds)) (SP X pins D) X.xe s₃) X.xe s₂) X.xe s₁) (fun u s' x => ?_)).run [] s σ H D (I.toTry _) h) (fun f s1 sp => ?_) (fun e s1 he => he)
  · obtain ⟨a, Gr, sI, pins', σ', H', cls, d, rfl, J', gr, up, sky, na, os, ag, w⟩ := x
    rw [show (X.tr (X.pn ++ pins) _).stack = X.env :: X.outer from hs] at sky
    refine L2N.Sky.land L2N.Zn.steady hfr hf sky fun h3 fl3 up3 => ?_
    exact clauses_run (sI := sI) (σ := σ') (H := H') hs hf hN hi hln tk os ag hh ⟨J'.ofTry ok, gr, up.trans up3, fl3, na⟩ w
  · cases f with
    | next => obtain ⟨σ', H', J', q⟩ := sp; exact wpAny_execs_nil ⟨σ', H', J'.ofTry ok, q⟩
    | brk => obtain ⟨σ', H', J', q⟩ := sp; exact ⟨σ', H', J'.ofTry ok, q⟩
    | cont => obtain ⟨σ', H', J', q⟩ := sp; exact ⟨σ', H', J'.ofTry ok, q⟩
    | ret u => obtain ⟨v, σ', H', J', r, q⟩ := sp; exact ⟨v, σ', H', J'.ofTry ok, r, q⟩
end
end DL
/- ==== DMj ==== -/
/-! DMj: walks over lists where an error is handled (after the library's calm ones). -/
namespace DL
open PySem PySem.Spec PyProof.Rows PySem.Calls L2 RZ HotX L2H
section
variable {prog : Program} {w : World} {A : Around} {E : Value → Shared → Prop} {s : Shared}
/-- the next of a list's iterator that is through -/
theorem list_end_hot {it l x1 : Addr} {i : Nat} {items : Array Value} {Q : Option Value → Shared → Prop} (hot : HotAt A x1 s.heap) (ne : x1 ≠ it)
    (hit : s.heap.IsListIter it l i) (hl : s.heap.IsList l items) (hx : items[i]? = none)
    (hQ : ∀ h', Heap.ExtBut it s.heap h' → Q none { s with heap := h' }) : wpAny (model prog w) A (pyNext (.ref it)) Q E s := by
  obtain ⟨hh, o1, w1, g1, d1, c1⟩ := hot
  obtain ⟨o, ho, hc, hd⟩ := id hit
  obtain ⟨ol, hol, _, nl, hdl⟩ := hl
  unfold pyNext
  refine wpAny_bind (wpAny_attempt (wpAny_callSpecial?_slot (name := Str.ofString "__next__") hit.typeIs slot_listiter_next
    (wpAny_call_entry slot_listiter_next hit.typeIs entry_listiter_next ?_ (args_listiter_next _))))
  show wpAny _ _ (field (.ref it) 0 >>= _) _ _ s
  refine wpAny_bind (wpAny_field ho hd (x := .ref l) rfl ?_)
  show wpAny _ _ (if (Value.ref l == Value.none) = true then _ else _) _ _ s
  rw [if_neg (show ¬ ((Value.ref l == Value.none) = true) from Bool.false_ne_true)]
  show wpAny _ _ (field (.ref it) 1 >>= _) _ _ s
  refine wpAny_bind (wpAny_field ho hd (x := .int i 0) rfl ?_)
  show wpAny _ _ (seqItems? (.ref l) >>= _) _ _ s
  refine wpAny_bind (wpAny_seqItems hol hdl ?_)
  simp only [Int.toNat_natCast, hx]
  refine wpAny_bind (wpAny_rule (wpAny_bind (wpAny_setField ho hd (by simp) ?_)))
  have g2 : (s.heap.update it (Obj.mapFields (·.setIfInBounds 0 Value.none))).get? x1 = some o1 := (Heap.get?_update_other _ _ (Ne.symm ne)).trans g1
  show wpAny _ _ (newExc (.type "StopIteration") [] >>= _) _ _ _
  refine wpAny_bind ?_
  simp only [newExc, newTuple]
  refine wpAny_bind (wpAny_newObj_type ?_ (by size_fits))
  refine wpAny_bind (m := firstArgMember _ _) (wpAny_of_eq (a := Value.none) (by first | rfl | (simp only [firstArgMember]; rfl)) ?_)
  refine wpAny_newObj_type ?_ (by size_fits)
  refine raiseNew_hot ⟨hh, o1, w1, Heap.get?_push_of_some _ (Heap.get?_push_of_some _ g2), d1, c1⟩ (Nat.ne_of_lt (Heap.lt_size (Heap.get?_push_of_some _ g2))) (Heap.get?_push_size _ rfl) rfl (by first | (simp; done) | (simp; omega) | (simp only [Array.size_append]; simp; omega)) ?_
  refine wpAny_bind (wpAny_isInstance (T := "StopIteration") (b := true) ⟨_, Heap.get?_update_self _ (Heap.get?_push_size _ rfl) rfl, rfl⟩ isSubtype_stop ?_)
  refine wpAny_pure (hQ _ fun b o hb e => ?_)
  have e1 : (s.heap.update it (Obj.mapFields (·.setIfInBounds 0 Value.none))).get? b = some o := (Heap.get?_update_other _ _ (Ne.symm hb)).trans e
  have e3 : ∀ O : Obj, ((s.heap.update it (Obj.mapFields (·.setIfInBounds 0 Value.none))).push O).get? b = some o := fun O => Heap.get?_push_of_some _ e1
  rw [Heap.get?_update_other _ _ (Nat.ne_of_gt (Heap.lt_size (e3 _)))]
  exact Heap.get?_push_of_some _ (e3 _)
/-- the next of a tuple's iterator that is through -/
theorem tup_end_hot {it t x1 : Addr} {i : Nat} {items : Array Value} {Q : Option Value → Shared → Prop} (hot : HotAt A x1 s.heap) (ne : x1 ≠ it)
    (hit : IsTupIter s.heap it t i) (ht : IsTup s.heap t items) (hx : items[i]? = none)
    (hQ : ∀ h', Heap.ExtBut it s.heap h' → Q none { s with heap := h' }) : wpAny (model prog w) A (pyNext (.ref it)) Q E s := by
  obtain ⟨hh, o1, w1, g1, d1, c1⟩ := hot
  obtain ⟨o, ho, hc, hd⟩ := id hit
  obtain ⟨ol, hol, _, nl, hdl⟩ := ht
  unfold pyNext
  refine wpAny_bind (wpAny_attempt (wpAny_callSpecial?_slot (name := Str.ofString "__next__") hit.typeIs slot_tupleiter_next
    (wpAny_call_entry slot_tupleiter_next hit.typeIs entry_tupleiter_next ?_ (args_tupleiter_next _))))
  show wpAny _ _ (field (.ref it) 0 >>= _) _ _ s
  refine wpAny_bind (wpAny_field ho hd (x := .ref t) rfl ?_)
  show wpAny _ _ (if (Value.ref t == Value.none) = true then _ else _) _ _ s
  rw [if_neg (show ¬ ((Value.ref t == Value.none) = true) from Bool.false_ne_true)]
  show wpAny _ _ (field (.ref it) 1 >>= _) _ _ s
  refine wpAny_bind (wpAny_field ho hd (x := .int i 0) rfl ?_)
  show wpAny _ _ (seqItems? (.ref t) >>= _) _ _ s
  refine wpAny_bind (wpAny_seqItems hol hdl ?_)
  simp only [Int.toNat_natCast, hx]
  refine wpAny_bind (wpAny_rule (wpAny_bind (wpAny_setField ho hd (by simp) ?_)))
  have g2 : (s.heap.update it (Obj.mapFields (·.setIfInBounds 0 Value.none))).get? x1 = some o1 := (Heap.get?_update_other _ _ (Ne.symm ne)).trans g1
  show wpAny _ _ (newExc (.type "StopIteration") [] >>= _) _ _ _
  refine wpAny_bind ?_
  simp only [newExc, newTuple]
  refine wpAny_bind (wpAny_newObj_type ?_ (by size_fits))
  refine wpAny_bind (m := firstArgMember _ _) (wpAny_of_eq (a := Value.none) (by first | rfl | (simp only [firstArgMember]; rfl)) ?_)
  refine wpAny_newObj_type ?_ (by size_fits)
  refine raiseNew_hot ⟨hh, o1, w1, Heap.get?_push_of_some _ (Heap.get?_push_of_some _ g2), d1, c1⟩ (Nat.ne_of_lt (Heap.lt_size (Heap.get?_push_of_some _ g2))) (Heap.get?_push_size _ rfl) rfl (by first | (simp; done) | (simp; omega) | (simp only [Array.size_append]; simp; omega)) ?_
  refine wpAny_bind (wpAny_isInstance (T := "StopIteration") (b := true) ⟨_, Heap.get?_update_self _ (Heap.get?_push_size _ rfl) rfl, rfl⟩ isSubtype_stop ?_)
  refine wpAny_pure (hQ _ fun b o hb e => ?_)
  have e1 : (s.heap.update it (Obj.mapFields (·.setIfInBounds 0 Value.none))).get? b = some o := (Heap.get?_update_other _ _ (Ne.symm hb)).trans e
  have e3 : ∀ O : Obj, ((s.heap.update it (Obj.mapFields (·.setIfInBounds 0 Value.none))).push O).get? b = some o := fun O => Heap.get?_push_of_some _ e1
  rw [Heap.get?_update_other _ _ (Nat.ne_of_gt (Heap.lt_size (e3 _)))]
  exact Heap.get?_push_of_some _ (e3 _)
/-- a tuple taken apart -/
theorem unpack_hot {t x1 : Addr} {items : Array Value} {targets : List (Bool × (Value → Sem Unit))} {Q : Unit → Shared → Prop} (hot : HotAt A x1 s.heap) (ht : IsTup s.heap t items)
    (hn : targets.length = items.size) (hstar : targets.findIdx? (·.1) = none)
    (h : ∀ h', Heap.ExtBut s.heap.objs.size s.heap h' → wpAny (model prog w) A (assignInOrder (targets.map (·.2)) items.toList) Q E { s with heap := h' }) : wpAny (model prog w) A (unpack (.ref t) targets) Q E s := by
  obtain ⟨hh, o1, w1, g1, d1, c1⟩ := hot
  have lt1 := Heap.lt_size g1
  have nt : t ≠ s.heap.objs.size := by obtain ⟨o, ho, _⟩ := ht; exact Nat.ne_of_lt (Heap.lt_size ho)
  unfold unpack
  rw [hn, hstar]
  refine wpAny_bind (wpAny_holding ?_)
  unfold unpackItems
  refine wpAny_bind ?_
  unfold notIterableAtAll
  refine wpAny_bind (wpAny_specialOf ht.typeIs slot_tuple_iter.lookup (wpAny_pure ?_))
  simp only [Bool.false_eq_true, if_false]
  refine wpAny_bind (wpAny_holding (iter_tuple ht ?_))
  refine wpAny_bind (wpAny_holding (draw_tuple nt items.size 0 _ _ ⟨_, Heap.get?_push_size _ rfl, rfl, rfl⟩ (ht.push _) (by omega) fun h₁ hit₁ hs₁ => ?_))
  have all_ : List.take items.size (List.drop 0 items.toList) = items.toList := by
    rw [List.drop_zero]; exact List.take_of_length_le (by simp)
  rw [all_, if_neg (by simp)]
  have g2 : h₁.get? x1 = some o1 := hs₁.extBut x1 o1 (Nat.ne_of_lt lt1) (Heap.get?_push_of_some _ g1)
  refine wpAny_bind (wpAny_holding (tup_end_hot ⟨hh, o1, w1, g2, d1, c1⟩ (Nat.ne_of_lt lt1) hit₁ ((ht.push _).extBut hs₁.extBut nt) (by simp) fun h₂ he₂ => ?_))
  simp only [Option.isSome_none, Bool.false_eq_true, if_false]
  exact wpAny_pure (h h₂ fun b o hb e => he₂ b o hb (hs₁.extBut b o hb (Heap.get?_push_of_some _ e)))
end
/-- wherever the def's state holds, the handled error has no context -/
def HotI (X : Cx) : Prop := ∀ (pins : List (Addr × Obj)) (σ : L2.St) (H : Hp) (s : Shared), Inv X pins σ H s → ∃ x1, HotAt X.A x1 s.heap ∧ H x1 = none
section
variable {X : Cx} {B : List Addr} {H0 : Hp}
theorem pg_tupH {es : List Expr} {k : Nat} {t : TGs} {n : Nat} {pos : Pos} (hot : HotI X) (h : PGs X es t)
    (hn : (assignEach es X.env).length = n := by rfl) (hst : (assignEach es X.env).findIdx? (·.1) = none := by rfl) : PG X (.Tuple es k pos) (gTup X.K n t) := by
  refine ⟨fun pins s σ H v u Q I r ⟨a, xs, e1, hq, hl, hw⟩ => ?_⟩
  subst e1
  cases r
  obtain ⟨its, rv, ht, hz⟩ := I.tuple hq
  obtain ⟨x1, hx1, _⟩ := hot pins σ H s I
  rw [assign_Tuple]
  refine wpAny_bind (wpAny_standAt (unpack_hot hx1 ht (by simp [hn, ← hl, rv.length]) hst fun h' hx => ?_))
  have I1 : Inv X pins σ H { s with heap := h' } := I.kept (t' := s.toks) fun b o e => hx b o (Nat.ne_of_lt (Heap.lt_size e)) e
  exact h.run pins _ σ H xs _ Q I1 (by simpa using rv) hw
theorem pdg_tupH {es : List Expr} {k : Nat} {r : DGs} {n : Nat} {is : List Nat} {pos : Pos} (hot : HotI X) (h : PDGs X B H0 is es r) (hn : ∀ {ds S post}, r ds S post → ds.length = n)
    (ha : (assignEach es X.env).length = n := by rfl) (hst : (assignEach es X.env).findIdx? (·.1) = none := by rfl) : PDG X B H0 is (.Tuple es k pos) (dgTup r) := PGmono (pg_tupH hot h ha hst) fun v σ H Q ⟨G, S, d, post, hs, hd, hg, hq⟩ => by
  unfold dgTup at hg
  split at hg
  · cases hd with
    | tup t1 t2 => exact ⟨_, _, rfl, SqT.up hs.wd.sub t1, by rw [t2.length]; exact hn hg, G, S, _, post, hs, t2, hg, hq⟩
  · exact hg.elim
end
/-- a list is walked -/
structure PIL (X : Cx) (iter : Expr) (wi : TI) : Prop where
  run : ∀ (pins : List (Addr × Obj)) (s : Shared) (σ : L2.St) (H : Hp) (R : It → Hp → Prop), Inv X pins σ H s → wi σ H R →
    wpAny (model X.prog X.w) X.A (eval iter X.env) (fun v s1 => ∃ (l : Addr) (H' : Hp), v = .ref l ∧ Inv X pins σ H' s1 ∧ (∃ xs, SqL X.K H' l xs) ∧ R (Itl X.K l) H') X.xe s
theorem pil_list {X : Cx} {e : Expr} {te : TE} (h : PE X e te) : PIL X e (iList X.K te) := ⟨fun pins s σ H R I hw => thn (h.run pins s σ H _ I hw) fun v s1 ⟨x, H1, I1, r1, a, e, hq, q⟩ => by
  subst e
  cases r1
  exact ⟨a, H1, rfl, I1, hq, q⟩⟩
section
variable {X : Cx} {elt tg iter : Expr} {ifs : List Expr} {scope : Scope} {own : List (Str × Nat)} {pos : Pos} {wi : TI} {g : TG} {tt : TT} {te : TE}
theorem pe_lcH (a : Addr) (oe : Obj) (hpin : (a, oe) ∈ X.pn) (hmark : Hot1 X.A (a, oe)) (hN : X.N.Nodup) (hi : PIL X iter wi) (ok : BlkOk X.N X.env.scope scope own)
    (hg : ∀ (s : Shared) (H : Hp) (C : Addr) (cl : List (Str × Addr)) (fp : List Addr), HotI (X.blk s H scope (compEnvC scope cl C X.env) fp) → PG (X.blk s H scope (compEnvC scope cl C X.env) fp) tg g)
    (ht : ∀ (s : Shared) (H : Hp) (C : Addr) (cl : List (Str × Addr)) (fp : List Addr), PTs (X.blk s H scope (compEnvC scope cl C X.env) fp) ifs tt)
    (he : ∀ (s : Shared) (H : Hp) (C : Addr) (cl : List (Str × Addr)) (fp : List Addr), PE (X.blk s H scope (compEnvC scope cl C X.env) fp) elt te) (hs : ∀ x, foldedSetIterable iter X.env x = pure x := by intro _; rfl) :
    PE X (.ListComp elt [⟨tg, iter, ifs, 0⟩] scope pos) (tLc wi g tt te (own.map (·.2))) := by
  refine ⟨fun pins s σ H Q I h => ?_⟩
  rw [eval_ListComp]
  have hfree : ∀ y ∈ scope.names, y.2 = .free → ∃ c, X.env.cells.lookup y.1 = some c := fun y hy e => (ok.free y hy e).elim (fun k => I.ok.has _ (.inl k)) fun k => I.ok.has _ (.inr k)
  refine wpAny_comprehension_free (use := none) rfl hs (closure_ok hfree) ok.kind (fun y hy e => by rw [ok.uniq y hy, e]) (thn (hi.run pins s σ H _ I h) fun v s1 ⟨l, H1, ev, I1, ⟨xs0, hq0⟩, q⟩ => ?_)
  subst ev
  obtain ⟨its0, rv0, pl0, _⟩ := I1.list hq0
  refine wpAny_pyIter_list pl0.isList ?_
  generalize hit : s1.heap.objs.size = it
  generalize hs2 : ({ s1 with heap := s1.heap.push { cls := .type "list_iterator", data := .fields #[.ref l, .int 0 0] } } : Shared) = s2
  have I2 : Inv X pins σ H1 s2 := by rw [← hs2]; exact I1.kept (t' := s1.toks) fun b o e => Heap.get?_push_of_some _ e
  have i2 : s2.heap.IsListIter it l 0 := by rw [← hs2, ← hit]; exact ⟨_, Heap.get?_push_size _ rfl, rfl, rfl⟩
  have F2 : FpOk X pins H1 it := I1.fpOk (Nat.le_of_eq hit) (I1.hok.fresh (Nat.le_of_eq hit))
  refine wpAny_newObj_type (newEnv_comp ?_) (by show 0 ≤ sizeLine; decide)
  generalize hD : s2.heap.objs.size = D
  have hDn : H1 D = none := I2.hok.fresh (Nat.le_of_eq hD)
  obtain ⟨W, ⟨m0, w0⟩, turn⟩ := q D hDn
  generalize hs3 : ({ s2 with heap := s2.heap.push { cls := .type "list", data := .seq ([] : List Value).toArray } } : Shared) = s3
  have h3 : s3.heap = s2.heap.push { cls := .type "list", data := .seq ([] : List Value).toArray } := by rw [← hs3]
  have I3 : Inv X pins σ (upd H1 D (.lst [])) s3 := by
    rw [← hs3]
    refine I2.laid (t' := s2.toks) (fun b o e => Heap.get?_push_of_some _ e) (Nat.le_of_eq hD) ⟨Nat.zero_le _, [], 0, .nil, ?_⟩
    rw [← hD]
    exact Heap.get?_push_size _ rfl
  have lt2 : it < s2.heap.objs.size := by obtain ⟨o, e, _⟩ := i2; exact Heap.lt_size e
  have i3 : s3.heap.IsListIter it l 0 := by
    obtain ⟨o, e1, e2, e3⟩ := i2
    exact ⟨o, by rw [h3]; exact Heap.get?_push_of_some _ e1, e2, e3⟩
  have F3 : ∀ b ∈ [it], FpOk X pins (upd H1 D (.lst [])) b ∧ b < s3.heap.objs.size := fun b hb => by
    obtain rfl : b = it := by simpa using hb
    exact ⟨⟨by rw [upd_ne (by rw [← hD]; exact Nat.ne_of_lt lt2)]; exact F2.1, F2.2⟩, by rw [h3, Heap.size_push]; exact Nat.lt_succ_of_lt lt2⟩
  -- the handled error
  obtain ⟨pa1, pa2, _⟩ := I3.pin (a, oe) (List.mem_append_left _ hpin)
  have ait : a ≠ it := (F3 it (by simp)).1.2.2.2.2.2 (a, oe) (List.mem_append_left _ hpin)
  have I4 := block_start I3 ok hN F3
  have aS : a ∉ frs X.stack := fun z => by
    obtain ⟨_, _, k1, k2, _⟩ := I3.pin (a, oe) (List.mem_append_left _ hpin)
    exact (List.mem_cons.mp (I3.stkSub _ z)).elim k1 k2
  generalize hce : compEnvC scope (cellsFrom (s3.heap.objs.size + 1) scope.names (cloFrom X.env.cells scope.names [])) s3.heap.objs.size X.env = ce at I4
  have hotB : HotI (X.blk s3 (upd H1 D (.lst [])) scope ce [it]) := fun pins' σ' H' s' J => by
    have k1 : s'.heap.get? a = some oe := J.base.keep a oe pa1 pa2 aS (by simpa using ait)
    obtain ⟨m1, vs, m2, m3⟩ := hmark
    exact ⟨a, ⟨m1, oe, vs, k1, m2, m3⟩, J.base.free a oe pa1 pa2 (by simpa using ait)⟩
  have pg := hg s3 (upd H1 D (.lst [])) s3.heap.objs.size (cellsFrom (s3.heap.objs.size + 1) scope.names (cloFrom X.env.cells scope.names [])) [it]
  have pt := ht s3 (upd H1 D (.lst [])) s3.heap.objs.size (cellsFrom (s3.heap.objs.size + 1) scope.names (cloFrom X.env.cells scope.names [])) [it]
  have pe := he s3 (upd H1 D (.lst [])) s3.heap.objs.size (cellsFrom (s3.heap.objs.size + 1) scope.names (cloFrom X.env.cells scope.names [])) [it]
  rw [hce] at pg pt pe
  replace pg := pg hotB
  have cL : ce.locals = s3.heap.objs.size := by subst hce; rfl
  show codeAny _ _ (.compStart (.ListComp elt [⟨tg, iter, ifs, 0⟩] scope pos) 0 (.ref it) (.ref D) (compEnvC scope (cellsFrom (s3.heap.objs.size + 1) scope.names (cloFrom X.env.cells scope.names [])) s3.heap.objs.size X.env)) (compPost (model X.prog X.w) X.A X.xe none _ (.ref D) s3.heap.objs.size) _
  rw [hce]
  have itF : (upd H1 D (.lst [])) it = none := (F3 it (by simp)).1.1
  generalize hH3 : upd H1 D (.lst []) = H3 at *
  generalize hs4 : ({ s3 with heap := pushCells (s3.heap.push { cls := .type "dict", data := .dict #[] }) scope.names } : Shared) = s4 at I4 ⊢
  have at_ : ∀ {h h' : Heap} {i : Nat}, h.IsListIter it l i → (∀ o, h.get? it = some o → h'.get? it = some o) → h'.IsListIter it l i := fun {h h' i} ⟨o, e1, e2, e3⟩ k => ⟨o, k o e1, e2, e3⟩
  have i4 : s4.heap.IsListIter it l 0 := at_ i3 fun o e => by rw [← hs4]; exact pushCells_keeps _ _ _ _ (Heap.get?_push_of_some _ e)
  have okp : ∀ {σ' : L2.St} {H' : Hp} {s' : Shared}, Inv (X.blk s3 H3 scope ce [it]) [] σ' H' s' → H' it = none → FpOk (X.blk s3 H3 scope ce [it]) [] H' it := fun {σ' H' s'} J n =>
    ⟨n, (J.ok.exf it (by simp)).1, J.ok.exfs it (by simp), .inl (by simp), fun x c e => (J.ok.exf it (by simp)).2 x c e, fun p hp => absurd (show p ∈ ([] : List (Addr × Obj)) ++ [] from hp) (by simp)⟩
  have loop : codeAny (model X.prog X.w) X.A (.compLoop (.ListComp elt [⟨tg, iter, ifs, 0⟩] scope pos) 0 (.ref it) (.ref D) ce) (compPost (model X.prog X.w) X.A X.xe none (EP X pins σ Q) (.ref D) s3.heap.objs.size) s4 := by
    refine compLoop_any (fun n s' => ∃ i H', Inv (X.blk s3 H3 scope ce [it]) [] (L2.wipe σ (own.map (·.2))) H' s' ∧ s'.heap.IsListIter it l i ∧ H' it = none ∧ W i n H') ?_ m0 ⟨0, H3, I4, i4, itF, w0⟩
    rintro n s5 ⟨i, H5, I5, st5, n5, w5⟩
    obtain ⟨f0, f1, f2, f3, f4, f5⟩ := okp I5 n5
    obtain ⟨x1, hx1, hx2⟩ := hotB _ _ _ _ I5
    rcases turn i n H5 w5 with ⟨⟨xs, hq, hle⟩, qq⟩ | ⟨⟨xs, x, hq, hx⟩, Nx, hNx, step⟩
    · obtain ⟨its, rv, pl, _⟩ := I5.list hq
      have hl := rv.length
      have x1it : x1 ≠ it := fun z => by
        obtain ⟨o, e1, e2, e3⟩ := st5
        obtain ⟨_, o1, w1, g1, d1, c1⟩ := hx1
        rw [z, e1] at g1; cases g1
        rw [e3] at d1; cases d1
        cases c1
      refine list_end_hot hx1 x1it st5 pl.isList (by simp; omega) fun h' eb => ?_
      have I6 : Inv (X.blk s3 H3 scope ce [it]) [] (L2.wipe σ (own.map (·.2))) H5 { s5 with heap := h' } := I5.turned (t' := s5.toks) (fun b o hb e => eb b o hb e) f0 f1 f3 f4 f5
      have I7 : Inv X pins σ H5 { s5 with heap := h' } := I3.call' (ch := [it]) I6.os I6.base I6.hok I6.bare fun b hb => ⟨(F3 b hb).1.2.2.2.1, (F3 b hb).1.2.1, (F3 b hb).1.2.2.2.2.1, (F3 b hb).1.2.2.2.2.2⟩
      have nC : H5 s3.heap.objs.size = none := by
        have z : H5 ce.locals = none := I6.free
        rw [cL] at z
        exact z
      obtain ⟨m, hn, _⟩ := I6.loc
      have hn : Heap.Ns h' ce.locals m := hn
      rw [cL] at hn
      refine ⟨m, hn, fun h'' sb => ?_⟩
      obtain ⟨g0, g1, g2, g3, g4, g5⟩ := I3.fpOk (H' := H5) (Nat.le_refl _) nC
      exact ⟨.ref D, H5, I7.turned (t' := s5.toks) (fun b o hb e => (sb.2 b hb).trans e) g0 g1 g3 g4 g5, rfl, qq⟩
    · obtain ⟨its, rv, pl, _⟩ := I5.list hq
      obtain ⟨u, hu, ru⟩ := rv.get hx
      refine wpAny_pyNext_list_item st5 pl.isList (x := u) (by simpa using hu) fun h' st' sb => ?_
      have I7 : Inv (X.blk s3 H3 scope ce [it]) [] (L2.wipe σ (own.map (·.2))) H5 { s5 with heap := h' } := I5.turned (t' := s5.toks) (fun b o hb e => (sb.2 b hb).trans e) f0 f1 f3 f4 f5
      obtain ⟨o, e1, e2, e3⟩ := id st'
      refine go_of (s := { s5 with heap := h' }) e1 e2 e3 (by decide) ?_
      have I8 := I7.pinned (fp := [it]) (fun b hb => by obtain rfl : b = it := by simpa using hb
                                                        exact okp I7 n5) (fun b hb => by
        obtain rfl : b = it := by simpa using hb
        exact ⟨o, e1, fun v z => by rw [e3] at z; cases z⟩)
      refine thnF (pg.run _ _ _ H5 x u _ I8 ru (step x H5 ⟨rfl, fun ys hy => by rw [I5.list_inj hy hq]; exact hx⟩)) fun _ s8 ⟨σ8, H8, J8, hw8, q8⟩ => ?_
      refine thnF (pt.run _ s8 σ8 H8 _ J8 q8) fun b s9 ⟨H9, J9, q9⟩ => ?_
      have fin : ∀ {s' : Shared} {H' : Hp}, Inv (X.blk s3 H3 scope ce [it]) ([] ++ pinsAt [it] h') σ8 H' s' → Nx H' → ∃ m, m < n ∧ ∃ i H', Inv (X.blk s3 H3 scope ce [it]) [] (L2.wipe σ (own.map (·.2))) H' s' ∧ s'.heap.IsListIter it l i ∧ H' it = none ∧ W i m H' := fun {s' H'} J nx => by
        obtain ⟨m', hm, w'⟩ := hNx H' nx
        have pit := J.pin (it, o) (List.mem_append_right _ (List.mem_append_right _ (mem_pinsAt (by simp) e1)))
        refine ⟨m', hm, i + 1, H', (J.unpinned (pins := [])).weak (by rw [← hw8, wipe_length]) (fun j v e => ?_), ⟨o, pit.1, e2, e3⟩, pit.2.1, w'⟩
        rw [← hw8] at e
        exact (wipe_some e).1
      cases b with
      | false =>
        simp only [Bool.false_eq_true, if_false] at q9 ⊢
        exact fin J9 q9
      | true =>
        simp only [if_true] at q9 ⊢
        refine thnF (pe.run _ s9 σ8 H9 _ J9 q9) fun z s10 ⟨yv, H10, J10, r10, acc, hD10, hz10, nx⟩ => ?_
        exact app_ok (X := X.blk s3 H3 scope ce [it]) J10 hD10 hz10 r10 fun s11 J11 => fin J11 nx
  exact codeAny_compStart_list loop (wpAny_pyIter_listiter i4 loop)
end
end DL
/- ==== DMk ==== -/
/-! DMk: a lambda called in a try, its errors asked in the clauses, over data. -/
namespace DL
open PySem PySem.Spec PyProof.Rows PySem.Calls L2 RZ HotX L2H
section
variable {X : Cx} {B : List Addr} {H0 : Hp} {e : Expr} {de : DE}
theorem PILmono {t t' : TI} (h : PIL X e t) (m : ∀ σ H R, t' σ H R → t σ H R) : PIL X e t' := ⟨fun pins s σ H R I q => h.run pins s σ H R I (m σ H R q)⟩
theorem pdil (h : PD X B H0 e de) : PIL X e (lI X.K B H0 (diL de)) := PILmono (pil_list h) fun σ H R ⟨G, S, post, hs, hd, hq⟩ => ⟨G, S, _, hs, hd, fun v d G' H' s r p => by
  split at p
  · cases r with
    | lst h1 h2 => exact ⟨_, rfl, ⟨_, SqL.of (s.wd.sub _ _ h1)⟩, hq _ _ G' H' s (itd_list h1 h2) p⟩
  · exact p.elim⟩
theorem pd_lcH {elt tg iter : Expr} {ifs : List Expr} {scope : Scope} {own : List (Str × Nat)} {is : List Nat} {pos : Pos} {di : DE} {g : DG} {t : DT} {el : DE} {a : Addr} {oe : Obj} (hpin : (a, oe) ∈ X.pn) (hmark : Hot1 X.A (a, oe)) (hN : X.N.Nodup) (hi : PD X B H0 iter di) (ok : BlkOk X.N X.env.scope scope own)
    (hg : ∀ (s : Shared) (H : Hp) (C : Addr) (cl : List (Str × Addr)) (fp : List Addr), HotI (X.blk s H scope (compEnvC scope cl C X.env) fp) → PDG (X.blk s H scope (compEnvC scope cl C X.env) fp) B H0 is tg g) (ht : ∀ (s : Shared) (H : Hp) (C : Addr) (cl : List (Str × Addr)) (fp : List Addr), PTs (X.blk s H scope (compEnvC scope cl C X.env) fp) ifs (lT X.K B H0 t))
    (he : ∀ (s : Shared) (H : Hp) (C : Addr) (cl : List (Str × Addr)) (fp : List Addr), PD (X.blk s H scope (compEnvC scope cl C X.env) fp) B H0 elt el) (hio : ∀ j, j ∈ is → j ∈ own.map (·.2) := by decide) (hs : ∀ x, foldedSetIterable iter X.env x = pure x := by intro _; rfl) :
    PD X B H0 (.ListComp elt [⟨tg, iter, ifs, 0⟩] scope pos) (dLc (diL di) g t el (own.map (·.2))) := PEmono (pe_lcH a oe hpin hmark hN (pdil hi) ok hg ht he hs) fun _ _ _ h => lc_lift hio h
/-- a class of the module by its name -/
theorem pd_cls {x : Str} {C : Addr} {pos : Pos} (hg : Gl X x) (hm : X.mg x = some (.ref C)) (hd : (x == ("__debug__" : Str)) = false := by decide) : PD X B H0 (.Name x pos) (dC (.raw (.ref C))) :=
  PEmono (pe_glob (v := .ref C) hg hm rfl hd) fun σ H Q ⟨G, S, post, hs, h, hq⟩ => hq _ (.raw (.ref C)) G H (Stp.refl hs.wd) rfl h
end
/-! ### isinstance(e, C), e the error at hand -/
def fIsE (K : Kf) (Dc a : Addr) : List D → (D → Prop) → Prop := fun xs post => match xs with
  | [.raw (.ref b), .raw (.ref c)] => b = a ∧ ∃ k, PySem.W.kitOne K (.ref Dc) (.ref c) = some k ∧ post (.py (.bool k))
  | [.raw (.ref b), .raw (.ty n)] => b = a ∧ ∃ k, PySem.W.kitOne K (.ref Dc) (.type n) = some k ∧ post (.py (.bool k))
  | _ => False
theorem cd_isE {K : Kf} {B : List Addr} {Dc a : Addr} : CallD K B (rIsE K Dc a) (fIsE K Dc a) := fun G H xs dxs post Q w r hf hq => by
  unfold fIsE at hf
  split at hf
  · cases r with
    | cons r1 rn =>
      cases rn with
      | cons r2 rn =>
        cases rn
        obtain ⟨rfl, k, h1, h2⟩ := hf
        cases r1; cases r2
        exact ⟨_, _, k, rfl, fun u h => h, h1, stay w hq (.bl _) h2⟩
  · cases r with
    | cons r1 rn =>
      cases rn with
      | cons r2 rn =>
        cases rn
        obtain ⟨rfl, k, h1, h2⟩ := hf
        cases r1; cases r2
        exact ⟨_, _, k, rfl, fun u h => h, h1, stay w hq (.bl _) h2⟩
  · exact hf.elim
section
variable {X : Cx} {B : List Addr} {H0 : Hp} {e c : Expr} {de dc : DE} {p pos : Pos} {a Dc : Addr} {oe : Obj} {pn : List (Addr × Obj)}
theorem pd_isE (T : Bl X.mg) (C : ExcC X.K Dc) (hz : L2N.Zn (.ref Dc) none oe) (hf : ∃ vs, oe.data = .fields vs) (he : PD (X.suite a ((a, oe) :: pn)) B H0 e de) (hc : PD (X.suite a ((a, oe) :: pn)) B H0 c dc) (hg : Gl X "isinstance" := by rfl)
    (s1 : starEach [e, c] X.env = (false, eval e X.env) :: starEach [c] X.env := by rfl) (s2 : starEach [c] X.env = (false, eval c X.env) :: starEach [] X.env := by rfl) (hpl : (backTo pos (starEach [c] X.env)).any (·.1) = false := by rfl) :
    PD (X.suite a ((a, oe) :: pn)) B H0 (.Call (.Name "isinstance" p) [e, c] [] pos) (dCB (fIsE X.K Dc a) (dCons de (dCons dc dNil))) :=
  pd_callB (X := X.suite a ((a, oe) :: pn)) (call_isE C hz.zc hf) cd_isE hg T.isinstance bo_isinstance (pda_cons he (pda_cons hc pda_nil s2) s1) (by decide) (by decide) s1 hpl
end
/-! ### try: x(..) / except C1 as n: .. / except C2 as n: .. -/
theorem pss_none {X : Cx} {b : List Stmt} : PSs X b (fun _ _ _ => False) := ⟨fun _ _ _ _ _ _ h => h.elim⟩
def slotEnd (i : Nat) (E : DEnds) : DEnds := { nx := fun S' => E.nx (S'.set i none), rt := E.rt, bk := fun S' => E.bk (S'.set i none), ct := fun S' => E.ct (S'.set i none) }
theorem nones_takes {X : Cx} : L2N.Takes X (fun _ _ _ _ => False) := fun _ _ ⟨_, _, _, _, _, _, _, _, _, _, _, _, _, _, _, _, z⟩ => z.elim
def dTryFn (P : Program) (w : World) (K : Kf) (mg : Str → Option Value) (base : Heap) (B : List Addr) (k ic i : Nat) (C1 C2 : Addr) (ra : DA) (su : Addr → Addr → DS) : DS := fun E S => ∃ (L : LamD) (j n : Nat) (C : CtX) (px : XP), S[ic]? = some (some (.fn L)) ∧ LamCal P w K mg base L j n C ∧ j ≤ k ∧
  (ra S fun xs => C B xs (fun _ => E.nx S) px) ∧ ∀ cls fs, px cls fs → fs = [] ∧ ∃ Dc, cls = .ref Dc ∧ ExcC K Dc ∧ PySem.W.exmOne K cls (.ref C1) = some false ∧ PySem.W.exmOne K cls (.ref C2) = some true ∧ ∀ a, su a Dc (slotEnd i E) (S.set i (some (.raw (.ref a))))
section
variable {X : Cx} {B : List Addr} {H0 : Hp} {e : Expr} {es : List Expr} {ra : DA} {x x1 x2 n : Str} {C1 C2 : Addr} {i ic k : Nat} {b₁ b₂ : Stmt} {s1 s2 : List Stmt} {su : Addr → Addr → DS} {p np1 np2 hp1 hp2 pos pos2 pos3 : Pos}
theorem psd_tryFn (hst : X.stack = X.env :: X.outer) (hf : X.env.frame = some X.env.locals) (hN : X.N.Nodup) (hi : X.N[i]? = some n) (hln : X.env.kindOf n = some .local) (c1 : Names X x1 (.ref C1)) (c2 : Names X x2 (.ref C2))
    (hNc : X.N[ic]? = some x) (hv : Vis X.env.scope x) (hr : Room k X.A) (ha : ∀ pn xe, PDA (X.tr pn xe) B H0 (e :: es) ra)
    (hsu : ∀ (a : Addr) (oe : Obj) (Dc : Addr) (pn : List (Addr × Obj)), L2N.Zn (.ref Dc) none oe → (∃ vs, oe.data = .fields vs) → ExcC X.K Dc → PDSs (X.suite a ((a, oe) :: pn)) B H0 (b₂ :: s2) (su a Dc))
    (hd : (x == ("__debug__" : Str)) = false := by decide) (hcd : (x == ("__classdict__" : Str)) = false := by decide)
    (he : starEach (e :: es) X.env = (false, eval e X.env) :: starEach es X.env := by rfl) (hpl : (backTo pos (starEach es X.env)).any (·.1) = false := by rfl) (hsw : swapsWith (.Call (.Name x p) (e :: es) [] pos) none pos2.line X.env = pure false := by rfl) :
    PDS X B H0 (.Try [.Expr (.Call (.Name x p) (e :: es) [] pos) pos2] [.ExceptHandler (some (.Name x1 np1)) (some n) (b₁ :: s1) hp1, .ExceptHandler (some (.Name x2 np2)) (some n) (b₂ :: s2) hp2] [] [] pos3)
      (dTryFn X.prog X.w X.K X.mg X.base B k ic i C1 C2 ra su) :=
  PSmono (ps_try_all (tb := fun V => tDrop (tCallFn X.prog X.w X.K X.mg X.base B H0 k ic V ra)) (l := [(.ref C1, fun _ _ _ _ _ _ => False), (.ref C2, fun a cls d D σ H => ∃ Dc, (cls = .ref Dc ∧ d = none ∧ ExcC X.K Dc) ∧ lS X.K B H0 (su a Dc) D σ H)]) hst hf hN hi hln nones_takes
      (fun V pn xe tkV => pss_one (ps_expr (pe_callFn (X := X.tr pn xe) (k := k) hNc hv tkV hr (ha pn xe) hd hcd he hpl) hsw))
      (.cons c1 (fun _ _ _ _ _ _ _ => pss_none) (.cons c2 (fun a oe cls d pn hz hfl => ⟨fun pins s σ H D I ⟨Dc, ⟨e1, e2, e3⟩, h⟩ => by
        subst e1 e2
        exact (hsu a oe Dc pn hz hfl e3).run pins s σ H D I h⟩) .nil)))
    fun D σ H ⟨G0, E, ⟨G, S, hs, ho, L, j, m, C, px, hS, hL, hj, hra, hx⟩, q1, q2, q3, q4⟩ =>
      ⟨G, S, L, j, m, C, _, px, hs, hS, hL, hj, hra, fun v d G' H' st r p => q1 _ _ ⟨G', S, hs.step st, ho.trans st.toOld, p⟩, fun cls d fs G' H' st xd p => by
        obtain ⟨rfl, Dc, rfl, ek, e1, e2, hsd⟩ := hx cls fs p
        cases d with
        | some dx => exact absurd rfl xd.1
        | none =>
          refine ⟨false, e1, fun z => (by cases z), fun _ => ⟨true, e2, fun _ a _ => ⟨Dc, ⟨rfl, rfl, ek⟩, G0, slotEnd i E, ⟨G', _, (hs.step st).set i (d := .raw (.ref a)) (v := .ref a) rfl free_raw, ho.trans st.toOld, hsd a⟩, ?_, q2, ?_, ?_⟩, fun z => (by cases z)⟩⟩
          · exact fun σ' H' ⟨G2, S2, k1, k2, k3⟩ => q1 _ _ ⟨G2, _, k1.clear i none, k2, k3⟩
          · exact fun σ' H' ⟨G2, S2, k1, k2, k3⟩ => q3 _ _ ⟨G2, _, k1.clear i none, k2, k3⟩
          · exact fun σ' H' ⟨G2, S2, k1, k2, k3⟩ => q4 _ _ ⟨G2, _, k1.clear i none, k2, k3⟩⟩
end
theorem hot1_of {A : Around} {a : Addr} {oe : Obj} {cls : Value} {d : Option Addr} (hz : L2N.Zn cls d oe) (hf : ∃ vs, oe.data = .fields vs) : Hot1 (A.mark (some (.ref a))) (a, oe) :=
  let ⟨vs, h⟩ := hf; ⟨rfl, vs, h, hz.2.2 vs h⟩
theorem bo_ValueError : bootBuiltins "ValueError" = some (.type "ValueError") := by decide +kernel
/-! ### a def that may raise, called where it does not -/
theorem never_passes {X : Cx} : Passes (L2N.CX X.prog X.w) X (fun _ _ _ => False) := fun _ _ _ _ _ _ _ ⟨_, _, _, _, _, _, _, _, _, _, _, _, z⟩ => z.elim
section
variable {X : Cx} {B : List Addr} {H0 : Hp} {e : Expr} {es : List Expr} {ra : DA} {x : Str} {p pos : Pos}
theorem pd_calX {ps : List Str} {j k : Nat} {C : CtX} (c : CalX X.prog X.w X.K X.mg X.base x ps j C) (hr : Room k X.A) (ha : PDA X B H0 (e :: es) ra) (hjk : j ≤ k := by decide) (hg : Gl X x := by rfl) (hdb : (x == ("__debug__" : Str)) = false := by decide)
    (he : starEach (e :: es) X.env = (false, eval e X.env) :: starEach es X.env := by rfl) (hpl : (backTo pos (starEach es X.env)).any (·.1) = false := by rfl) : PD X B H0 (.Call (.Name x p) (e :: es) [] pos) (fun S post => ra S fun xs => C B xs post fun _ _ => False) := by
  obtain ⟨f, fd, hm, F, kp, b⟩ := c
  refine PEmono (pe_call F (hr.mono hjk) hg hm kp b.1 .nil never_passes ha hdb he hpl) fun σ H Q ⟨G, S, post, hs, hd, hq⟩ => ?_
  refine ⟨G, S, _, hs, hd, fun vs xs G1 H1 s1 r1 p1 => ?_⟩
  show spX X.K C (vs ++ []) H1 _ _
  rw [List.append_nil]
  exact ⟨B, G1, xs, _, fun _ _ => False, s1.wd, r1, p1, fun v d G' H' s2 r2 p2 => hq v d G' H' (s1.trans s2) r2 p2, fun _ _ _ _ _ _ _ z => z.elim⟩
end
end DL
/- ==== DMl ==== -/
/-! DMl: sorted(set(a list of texts)) (after the library's sets of ints). -/
namespace DL
open PySem PySem.Spec PyProof.Rows PySem.Calls L2 RZ
def txtOf (e : Int × Value) : Str := match e.2 with | .str k _ => k | _ => Str.empty
section
variable {P : Program} {w : World}
def GoodT (w : World) (e : Int × Value) : Prop := ∃ k tk, e.2 = Value.str k tk ∧ e.1 = hashStr w k
/-- the set of texts at a -/
def SetT (w : World) (h : Heap) (a : Addr) (S : Str → Bool) (n : Nat) : Prop :=
  ∃ o es ep t, h.get? a = some o ∧ o.ExactSet ∧ o.data = .set es ep t ∧ (∀ e ∈ es.toList, GoodT w e) ∧ (es.toList.map txtOf).Nodup ∧ (∀ k, S k = true ↔ k ∈ es.toList.map txtOf) ∧
    es.size < scanBound ∧ t.fits es.size = true ∧ es.size = n ∧ Ris t.place.toList ∧ (w.params.followText "set-order" = true ∨ t.led = true)
theorem SetT.at {h h' : Heap} {a : Addr} {S : Str → Bool} {n : Nat} (R : SetT w h a S n) (k : ∀ o, h.get? a = some o → h'.get? a = some o) : SetT w h' a S n := by
  obtain ⟨o, es, ep, t, ho, r⟩ := R
  exact ⟨o, es, ep, t, k o ho, r⟩
theorem SetT.congr {h : Heap} {a : Addr} {S S' : Str → Bool} {n : Nat} (R : SetT w h a S n) (e : ∀ k, S' k = S k) : SetT w h a S' n := by
  have q : S' = S := funext e
  rw [q]; exact R
theorem txt_is (k : Str) (tk : Tok) : (PySem.strKind P w).is k (.str k tk) = true := by simp [PySem.strKind, Value.isStrOf]
theorem txt_elems {l : List (Int × Value)} (g : ∀ e ∈ l, GoodT w e) : ElemsOf (PySem.strKind P w) l := fun e he => by
  obtain ⟨k, tk, h1, h2⟩ := g e he
  exact ⟨⟨k, by rw [h1]; exact txt_is k tk, h2⟩, by rw [h1] <;> rfl⟩
theorem txt_key {e : Int × Value} (g : GoodT w e) (k : Str) : (PySem.strKind P w).is k e.2 = true ↔ txtOf e = k := by
  obtain ⟨k0, tk, h1, _⟩ := g
  unfold txtOf
  rw [h1]
  simp [PySem.strKind, Value.isStrOf]
theorem txt_mem {l : List (Int × Value)} (g : ∀ e ∈ l, GoodT w e) (k : Str) : k ∈ l.map txtOf ↔ ∃ e ∈ l, (PySem.strKind P w).is k e.2 = true := by
  rw [List.mem_map]
  exact ⟨fun ⟨e, he, q⟩ => ⟨e, he, (txt_key (g e he) k).2 q⟩, fun ⟨e, he, q⟩ => ⟨e, he, (txt_key (g e he) k).1 q⟩⟩
end
section
variable {P : Program} {w : World} {A : Around} {E : Value → Shared → Prop} {s : Shared} {a : Addr} {S : Str → Bool} {n : Nat}
theorem setT_tail {g : Bool → Sem Unit} (hg : ∀ (b : Bool) (s₁ : Shared) (Q' : Unit → Shared → Prop), Q' () s₁ → wpAny (model P w) A (g b) Q' E s₁)
    {o : Obj} {es : Array (Int × Value)} {ep : Nat} {t : SetTable} (ho : s.heap.get? a = some o) (hex : o.ExactSet) (hd : o.data = .set es ep t)
    {es1 : Array (Int × Value)} {t2 : SetTable} {S' : Str → Bool} (g1 : ∀ e ∈ es1.toList, GoodT w e) (nd1 : (es1.toList.map txtOf).Nodup) (m1 : ∀ k, S' k = true ↔ k ∈ es1.toList.map txtOf)
    (hb1 : es1.size < scanBound) (hf2 : t2.fits es1.size = true) (hr : Ris t2.place.toList) (hl : w.params.followText "set-order" = true ∨ t2.led = true) {wasDummy : Bool} {R : Option Bool → Shared → Prop}
    (hR : ∀ h', Heap.SameBut a s.heap h' → SetT w h' a S' es1.size → R (some true) { s with heap := h' }) :
    wpAny (model P w) A (do
        storeSet a es1 t2
        if (!wasDummy && t2.tooFull) = true then do
            g (relayAll t2 es1 (SetTable.grown es1.size)).2.2
            storeSet a (relayAll t2 es1 (SetTable.grown es1.size)).1 (relayAll t2 es1 (SetTable.grown es1.size)).2.1
            pure (some true)
          else pure (some true)) R E s := by
  refine wpAny_bind (wpAny_storeSet_of ho hd ?_ (fits_of_scanBound hb1))
  have at1 := store_at (es' := es1) (t' := t2) ho hd
  have sb1 := Heap.SameBut.update s.heap a (Obj.putSet es1 t2)
  split
  · have pm := relayAll_perm t2 es1 (SetTable.grown es1.size)
    have f3 := relayAll_fits t2 es1 (SetTable.grown es1.size)
    have r3 := relayAll_ris t2 es1 (SetTable.grown es1.size)
    have l3 := relayAll_led t2 es1 (SetTable.grown es1.size)
    generalize relayAll t2 es1 (SetTable.grown es1.size) = Z at pm f3 r3 l3 ⊢
    obtain ⟨es2, t3, gave⟩ := Z
    dsimp only at pm f3 r3 l3 ⊢
    have hz : es2.size = es1.size := by rw [← Array.length_toList, pm.length_eq, Array.length_toList]
    refine wpAny_bind (hg _ _ _ ?_)
    refine wpAny_bind (wpAny_storeSet_of at1 rfl ?_ (fits_of_scanBound (by rw [hz]; exact hb1)))
    have at2 := store_at (es' := es2) (t' := t3) at1 rfl
    exact wpAny_pure (hR _ (sb1.trans (Heap.SameBut.update _ a _)) ⟨_, es2, _, t3, at2, hex, rfl, fun e he => g1 e (pm.mem_iff.mp he), (pm.map txtOf).nodup_iff.mpr nd1, fun k => (m1 k).trans (pm.map txtOf).mem_iff.symm, by rw [hz]; exact hb1, f3, hz, r3, hl.imp id fun z => by rw [l3]; exact z⟩)
  · exact wpAny_pure (hR _ sb1 ⟨_, es1, _, t2, at1, hex, rfl, g1, nd1, m1, hb1, hf2, rfl, hr, hl⟩)
theorem setT_add {k : Str} {tk : Tok} {Q : Bool → Shared → Prop} (R : SetT w s.heap a S n) (room : n + 1 < scanBound)
    (hQ : ∀ h', Heap.SameBut a s.heap h' → SetT w h' a (fun j => S j || decide (j = k)) (if S k = true then n else n + 1) → Q (!S k) { s with heap := h' }) :
    wpAny (model P w) A (setAddHashed a (.str k tk) ((PySem.strKind P w).hash k)) Q E s := by
  obtain ⟨o, es, ep, t, ho, hex, hd, g, nd, hm, hb, hf, hn, hr, hl⟩ := R
  have hsc : (Value.str k tk).scannable = true := rfl
  have hel : ElemsOf (PySem.strKind P w) es.toList := txt_elems g
  unfold setAddHashed setAddHashedIn
  refine wpAny_holding (wpAny_bind (wpAny_setState_of ho hd hf ?_))
  dsimp only
  rw [byScan_of hsc hb hel]
  simp only [↓reduceIte]
  unfold setAddByScan
  refine wpAny_bind ?_
  refine wpAny_bind (wpAny_rule ?_)
  refine wpAny_bind (wpAny_setScan_of (txt_is k tk) ho hd hf hel ?_)
  cases hfi : List.findIdx? (fun e => (PySem.strKind P w).is k e.2) es.toList with
  | some j =>
    dsimp only
    obtain ⟨hj, pj, _⟩ := List.findIdx?_eq_some_iff_getElem.mp hfi
    have hSk : S k = true := (hm k).2 ((txt_mem (P := P) g k).2 ⟨es.toList[j], List.getElem_mem hj, pj⟩)
    refine wpAny_pure (wpAny_pure ?_)
    have q := hQ s.heap (Heap.SameBut.refl a s.heap) ⟨o, es, ep, t, ho, hex, hd, g, nd, fun i => by
      rw [Bool.or_eq_true, decide_eq_true_eq, ← hm i]
      exact ⟨fun z => z.elim id (fun e => e ▸ hSk), .inl⟩, hb, hf, by rw [if_pos hSk]; exact hn, hr, hl⟩
    rw [hSk] at q
    exact q
  | none =>
    dsimp only
    have hnk : k ∉ es.toList.map txtOf := fun z => by
      obtain ⟨e, he, q⟩ := (txt_mem (P := P) g k).1 z
      have c := List.findIdx?_eq_none_iff.mp hfi e he
      rw [q] at c
      cases c
    have hSk : S k = false := by
      cases q : S k with
      | false => rfl
      | true => exact absurd ((hm k).1 q) hnk
    have gave_ : ∀ (b : Bool) {s₁ : Shared} {Q' : Unit → Shared → Prop}, Q' () s₁ → wpAny (model P w) A (match b with | true => rule "set.scan.the-table-gave-way" | false => pure ()) Q' E s₁ :=
      fun b s₁ Q' q => by cases b <;> first | exact wpAny_pure q | exact wpAny_rule q
    have pm := layNew_perm t es ((PySem.strKind P w).hash k) (.str k tk)
    have f1 := layNew_fits t es ((PySem.strKind P w).hash k) (.str k tk)
    have r1 := layNew_ris t es ((PySem.strKind P w).hash k) (.str k tk) hr
    have l1 := layNew_led t es ((PySem.strKind P w).hash k) (.str k tk)
    generalize layNew t es ((PySem.strKind P w).hash k) (.str k tk) = Z at pm f1 r1 l1 ⊢
    obtain ⟨es1, t1, wasDummy, gave⟩ := Z
    dsimp only at pm f1 r1 l1 ⊢
    rw [Array.toList_push] at pm
    have pc : es1.toList.Perm (((PySem.strKind P w).hash k, Value.str k tk) :: es.toList) := pm.trans (List.perm_append_singleton _ _)
    have pk : (es1.toList.map txtOf).Perm (k :: es.toList.map txtOf) := pc.map txtOf
    have g1 : ∀ e ∈ es1.toList, GoodT w e := fun e he => by
      rcases List.mem_cons.mp (pc.mem_iff.mp he) with z | z
      · rw [z]; exact ⟨k, tk, rfl, rfl⟩
      · exact g e z
    have nd1 : (es1.toList.map txtOf).Nodup := pk.nodup_iff.mpr (List.nodup_cons.mpr ⟨hnk, nd⟩)
    have m1 : ∀ i, (S i || decide (i = k)) = true ↔ i ∈ es1.toList.map txtOf := fun i => by
      rw [Bool.or_eq_true, decide_eq_true_eq, hm i, pk.mem_iff, List.mem_cons]
      exact Or.comm
    have hz : es1.size = n + 1 := by rw [← Array.length_toList, pc.length_eq, List.length_cons, Array.length_toList, hn]
    have hb1 : es1.size < scanBound := by rw [hz]; exact room
    have led1 : w.params.followText "set-order" = true ∨ t1.led = true := hl.imp id fun z => by rw [l1]; exact z
    have fin : ∀ h', Heap.SameBut a s.heap h' → SetT w h' a (fun j => S j || decide (j = k)) es1.size → Q true { s with heap := h' } := fun h' sb r => by
      have q := hQ h' sb
      rw [hSk] at q
      rw [hz] at r
      exact q r
    refine wpAny_bind (gave_ _ ?_)
    split
    · refine wpAny_bind ?_
      rw [hashByValue_scannable 8 hsc]
      refine wpAny_pure ?_
      refine setT_tail ?_ ho hex hd g1 nd1 m1 hb1 ?_ ?_ ?_ ?_
      · intro b s₁ Q' q; cases b <;> first | exact wpAny_pure q | exact wpAny_rule q
      · first | (split <;> first | exact f1 | exact SetTable.fits_plain_off f1) | exact f1
      · first | (split <;> exact r1) | exact r1
      · first | (split <;> exact led1) | exact led1
      · intro h' sb r; dsimp only; exact wpAny_pure (fin h' sb r)
    · refine wpAny_bind (wpAny_pure ?_)
      simp only [↓reduceIte]
      refine setT_tail ?_ ho hex hd g1 nd1 m1 hb1 f1 r1 led1 ?_
      · intro b s₁ Q' q; cases b <;> first | exact wpAny_pure q | exact wpAny_rule q
      · intro h' sb r; dsimp only; exact wpAny_pure (fin h' sb r)
theorem setT_new {h h' : Heap} {b : Addr} (w : World) (e : h'.get? b = some (newSet w)) : SetT w h' b (fun _ => false) 0 :=
  ⟨_, #[], 0, _, e, ⟨rfl, rfl, rfl⟩, rfl, (fun e he => by simp at he), (by simp), (fun k => by simp), (by decide), (by rfl), rfl, List.Pairwise.nil, by
    show _ ∨ (!w.params.followText "set-order") = true
    cases w.params.followText "set-order"
    · exact .inr rfl
    · exact .inl rfl⟩
/-- the loop of set(..) over texts -/
theorem setT_loop {I : Addr} {fp wr : List Addr} {G : Array GenState → Array GenState → Prop} {n : Nat} {Pv : Nat → Value → Prop} {St : Nat → Shared → Prop} {R : Result → Shared → Prop}
    (W : WalksS P w A.in1 I fp wr G n Pv St) (T : Addr) (hSf : T ∉ fp) (ns : List Str) (hn : n = ns.length) (hb : ns.length + 1 < scanBound) (hval : ∀ i v, Pv i v → ∃ k t, ns[i]? = some k ∧ v = .str k t) :
    ∀ (k i : Nat) (s : Shared), n - i = k → i ≤ n → St i s → (∃ c, c ≤ i ∧ SetT w s.heap T (fun j => decide (j ∈ ns.take i)) c) →
      (∀ s' c, Moved (T :: wr) G s s' → c ≤ n → SetT w s'.heap T (fun j => decide (j ∈ ns)) c → R (.ok (.ret .none)) s') →
      codeAny (model P w) A (.builtin "set.update.loop" ⟨[.ref T, .ref I], []⟩) R s := by
  have hSw : T ∉ wr := fun h => hSf (W.sub _ h)
  have hsub : ∀ b ∈ wr, b ∈ T :: wr := fun b hb => List.mem_cons_of_mem _ hb
  intro k
  induction k with
  | zero =>
    intro i s hk' hi hst ⟨c, hc, hS⟩ hR
    have hin : i = n := by omega
    subst hin
    refine codeAny_builtin F.entry_set_update_loop ?_
    rw [Around.under_plainId F.plain_set_update_loop _]
    show wpAny _ A.in1 (pyNext (.ref I) >>= _) _ _ s
    refine wpAny_bind (W.done s _ _ hst fun s' hm => ?_)
    show wpAny _ A.in1 (ret Value.none) _ _ s'
    have e : ns.take i = ns := List.take_of_length_le (by omega)
    rw [e] at hS
    exact wpAny_pure (hR s' c (hm.mono hsub) hc (hS.at fun o e => hm.heap T o hSw e))
  | succ k ih =>
    intro i s hk' hi hst ⟨c, hc, hS⟩ hR
    have hlt : i < n := by omega
    refine codeAny_builtin F.entry_set_update_loop ?_
    rw [Around.under_plainId F.plain_set_update_loop _]
    show wpAny _ A.in1 (pyNext (.ref I) >>= _) _ _ s
    refine wpAny_bind (W.item i s _ _ hlt hst fun v s' hP hst' hm => ?_)
    obtain ⟨z, t, hz, rfl⟩ := hval i v hP
    have hS' : SetT w s'.heap T (fun j => decide (j ∈ ns.take i)) c := hS.at fun o e => hm.heap T o hSw e
    show wpAny _ A.in1 (holding [Value.str z t] (setAdd T (.str z t)) >>= _) _ _ s'
    refine wpAny_bind (wpAny_holding ?_)
    unfold setAdd
    refine wpAny_holding ?_
    refine wpAny_bind ((PySem.strKind P w).pyHash (k := z) (txt_is z t) ?_)
    refine setT_add (s := { s' with toks := s'.toks + 1 }) hS' (by omega) fun h' hsb hS2 => ?_
    have hS3 : SetT w h' T (fun j => decide (j ∈ ns.take (i + 1))) (if decide (z ∈ ns.take i) = true then c else c + 1) := hS2.congr fun j => by
      rw [List.take_add_one, hz]
      simp [List.mem_append]
    have hc3 : (if decide (z ∈ ns.take i) = true then c else c + 1) ≤ i + 1 := by
      split <;> omega
    refine wpAny_pure ⟨plainId_quiet F.plain_set_update_loop _, ih (i + 1) _ (by omega) hlt (W.frame _ s' _ _ hst' (Nat.le_succ _) fun b hb o e => ?_) ⟨_, hc3, hS3⟩ fun s'' c2 hm'' hc'' hS'' => ?_⟩
    · rw [hsb.2 b (fun h : b = T => hSf (by rw [← h]; exact hb))]; exact e
    · refine hR s'' c2 (Moved.trans W.gtrans ((hm.mono hsub).then_heap (Nat.le_succ _) fun b o hb e => ?_) hm'') hc'' hS''
      rw [hsb.2 b (fun h : b = T => hb (by rw [h]; exact List.mem_cons_self))]; exact e
end
/-- what a set of a list is, when it is made -/
def SetMadeT (w : World) (s : Shared) (ns : List Str) (s' : Shared) : Prop := ∃ (h' : Heap) (tk c : Nat), s' = { s with heap := h', toks := tk } ∧ SetT w h' s.heap.objs.size (fun j => decide (j ∈ ns)) c ∧ c ≤ ns.length ∧ ∀ b o, s.heap.get? b = some o → h'.get? b = some o
section
variable {P : Program} {w : World} {A : Around} {E : Value → Shared → Prop} {s : Shared}
theorem set_fillT {A2 : Around} {l : Addr} {items : Array Value} {ns : List Str} {R : Result → Shared → Prop} (hh : A.handled = none) (hl : s.heap.IsList l items) (hit : StrsAre items.toList ns) (hb : ns.length + 1 < scanBound)
    (hR : ∀ s', SetMadeT w s ns s' → R (.ok (.ret .none)) s') :
    wpAny (model P w) A (Builtin.«set.__init__» ⟨[.ref s.heap.objs.size, .ref l], []⟩)
      (fun fin s' => match fin with | .done f => R (.ok f) s' | .again c' => c'.quiet = true ∧ codeAny (model P w) A2 c' R s') (fun e s' => R (.error e) s') { s with heap := s.heap.push (newSet w) } := by
  have sz : items.size = ns.length := by
    have q := StrsAre.len_eq hit
    rwa [Array.length_toList] at q
  have hS : (s.heap.push (newSet w)).get? s.heap.objs.size = some (newSet w) := Heap.get?_push_size _ rfl
  obtain ⟨ol, ho, hc, nl, hd⟩ := hl
  obtain ⟨ocls, odict, odata, oslots⟩ := ol
  simp only at hc hd
  subst hc; subst hd
  have hol : (s.heap.push (newSet w)).get? l = some { cls := .type "list", dict := odict, data := .seq items nl, slots := oslots } := Heap.get?_push_of_some _ ho
  have hll : (s.heap.push (newSet w)).IsList l items := ⟨_, hol, rfl, nl, rfl⟩
  have f1 := F.sub_list_set
  have f2 := F.sub_list_frozenset
  have f3 : (Value.type "list" == Value.type "dict") = false := by decide
  unfold Builtin.«set.__init__» noKeywords Builtin.Frozenset.updateFrom
  generalize hPI : pyIter = PI
  wp_walk
  subst hPI
  refine wpAny_pyIter_list hll (wpAny_bind (wpAny_runValue ?_))
  have lS : l < s.heap.objs.size := Heap.lt_size ho
  have pz : (s.heap.push (newSet w)).objs.size = s.heap.objs.size + 1 := Heap.size_push ..
  have ne1 : l ≠ (s.heap.push (newSet w)).objs.size := by rw [pz]; exact Nat.ne_of_lt (Nat.lt_succ_of_lt lS)
  have off : s.heap.objs.size ∉ [(s.heap.push (newSet w)).objs.size, l] := by
    rw [pz]
    simp only [List.mem_cons, List.not_mem_nil, or_false, not_or]
    exact ⟨Nat.ne_of_lt (Nat.lt_succ_self _), Nat.ne_of_gt lS⟩
  have val : ∀ (i : Nat) (v : Value), items[i]? = some v → ∃ k t, ns[i]? = some k ∧ v = .str k t := fun i v hv => by
    have il : i < ns.length := by rw [← sz]; exact (Array.getElem?_eq_some_iff.mp hv).1
    obtain ⟨t, e⟩ := SS.strs_at hit i v (by rw [Array.getElem?_toList]; exact hv)
    rw [List.getD_eq_getElem?_getD, List.getElem?_eq_getElem il] at e
    exact ⟨ns[i], t, List.getElem?_eq_getElem il, e⟩
  have hh1 : A.in1.handled = none := by simp [hh]
  refine setT_loop ((Walks.list hh1 _ l ne1 items).toS) s.heap.objs.size off ns sz hb val (items.size - 0) 0 _ (by omega) (Nat.zero_le _) ⟨⟨_, Heap.get?_push_size _ rfl, rfl, rfl⟩, hll.push _⟩ ⟨0, Nat.le_refl 0, (setT_new (h := s.heap) w (Heap.get?_push_of_some _ hS)).congr fun k => by simp⟩ fun s' c' hm hc' hS' => ?_
  obtain ⟨h', g2, d', tk', os'⟩ := s'
  have eg : g2 = s.gens := hm.gens
  have ed : d' = s.drawn := hm.drawn
  have eo : os' = s.os := hm.os
  subst eg; subst ed; subst eo
  refine wpAny_pure (wpAny_pure (hR _ ⟨h', tk', c', rfl, hS', by rw [← sz]; exact hc', fun b o e => ?_⟩))
  have b0 : b < s.heap.objs.size := Heap.lt_size e
  refine hm.heap b o ?_ (Heap.get?_push_of_some _ (Heap.get?_push_of_some _ e))
  simp only [List.mem_cons, List.not_mem_nil, or_false, not_or]
  exact ⟨Nat.ne_of_lt b0, by rw [pz]; exact Nat.ne_of_lt (Nat.lt_succ_of_lt b0)⟩
theorem set_of_listT {l : Addr} {items : Array Value} {ns : List Str} {Q : Value → Shared → Prop} (hh : A.handled = none) (hl : s.heap.IsList l items) (hit : StrsAre items.toList ns) (hb : ns.length + 1 < scanBound)
    (hQ : ∀ s', SetMadeT w s ns s' → Q (.ref s.heap.objs.size) s') : wpAny (model P w) A (call (.type "set") [.ref l]) Q E s := by
  obtain ⟨c, tl, mro⟩ := F.called_set.mro
  have made := F.called_set.made
  have sub := F.called_set.sub
  refine wpAny_call (codeAny_of_tree ?_)
  change wpAny _ _ (callAny (.type "set") _) _ _ _
  refine wpAny_pure ⟨Code.quiet_builtin _ (by decide +kernel), codeAny_builtin F.entry_type_call ?_⟩
  rw [Around.under_plain (weight_type_call_type "set" [.ref l] []) rfl]
  have g1 := F.called_set.notType
  have g2 := F.called_set.canCreate
  have g3 := F.typeCall_set_1 (.ref l)
  repeat (any_goals (first | assumption | wp_step))

  refine codeAny_mono (code_set_led1 (.ref l) (E := E) (Q₁ := fun obj s₁ => obj = .ref s.heap.objs.size ∧ s₁ = { s with heap := s.heap.push (newSet w) }) ⟨rfl, rfl⟩) fun r s₁ hr => ?_
  match r, hr with
  | .error e, hr => exact hr
  | .ok (.ret obj), hr =>
    obtain ⟨rfl, rfl⟩ := hr
    have hS : (s.heap.push (newSet w)).get? s.heap.objs.size = some (newSet w) := Heap.get?_push_size _ rfl
    have hT : Shared.TypeIs { s with heap := s.heap.push (newSet w) } (.ref s.heap.objs.size) "set" := ⟨_, hS, rfl⟩
    have g4 := F.called_set.init.lookup
    have g5 := F.called_set.init.bind (.ref s.heap.objs.size)
    repeat (any_goals (first | assumption | wp_step))

    refine codeAny_mono (codeAny_call_builtin (R := wants (fun r s₂ => r = .none ∧ SetMadeT w s ns s₂) E) F.called_set.init.plain F.entry_set_init (check_set_init_1 hT ?_)) fun r₂ s₂ hr₂ => ?_
    · refine set_fillT (by simp [hh]) hl hit hb fun s' m => ?_
      exact ⟨rfl, m⟩
    match r₂, hr₂ with
    | .error e, hr₂ => exact hr₂
    | .ok (.ret r), hr₂ =>
      obtain ⟨rfl, m⟩ := hr₂
      repeat (any_goals (first | assumption | wp_step))
      exact hQ _ m
theorem sort_setT {a : Addr} {S : Str → Bool} {n : Nat} {Q : Value → Shared → Prop} (R : SetT w s.heap a S n) (hh : A.handled = none) (h64 : n < 64)
    (hQ : ∀ s' p (out : Array Value) (c : Nat) (ns : List Str), (∀ b o, s.heap.get? b = some o → s'.heap.get? b = some o) → s'.gens = s.gens → s'.os = s.os → s.heap.objs.size ≤ p →
      s'.heap.get? p = some (seqObj "list" out c) → StrsAre out.toList ns → sortedS ns = true → ns.Nodup → (∀ k, k ∈ ns ↔ S k = true) → ns.length = n → Q (.ref p) s') : wpAny (model P w) A (call (.builtin "sorted") [.ref a]) Q E s := by
  obtain ⟨o, es, ep, t, ho, hex, hd, good, nd, mem, hb, fits, hn, ris, led⟩ := R
  refine Calls.call_function_entry kind_sorted plain_sorted entry_sorted (args_sorted1 _) ?_
  unfold Builtin.«sorted»
  refine wpAny_bind (m := checkCount "sorted" 1 1 _) (wpAny_pure ?_)
  refine wpAny_bind (collect_set (A := A.in1) hh ⟨o, ho, hex.1, hd⟩ fits hb ris led fun s1 vs k1 hz g1 o1 pm => ?_)
  have vl : vs.length = n := by rw [pm.length_eq, List.length_map, Array.length_toList]; exact hn
  have hI : StrsAre vs (vs.map strOf) := strsAre_map vs fun v hv => by
    obtain ⟨e, he, q⟩ := List.mem_map.mp (pm.mem_iff.mp hv)
    obtain ⟨k, tk, z, _⟩ := good e he
    exact ⟨k, tk, by rw [← q]; exact z⟩
  have pk : (vs.map strOf).Perm (es.toList.map txtOf) := by
    have q := pm.map strOf
    rw [List.map_map] at q
    have e : es.toList.map (strOf ∘ (·.2)) = es.toList.map txtOf := List.map_congr_left fun e he => by
      obtain ⟨k, tk, z, _⟩ := good e he
      show strOf e.2 = txtOf e
      unfold txtOf
      rw [z]; rfl
    rw [e] at q
    exact q
  refine wpAny_bind (wpAny_newList ?_ (by rw [vl, sizeLine_eq]; omega))
  have hoL : (s1.heap.push (seqObj "list" vs.toArray 0)).get? s1.heap.objs.size = some (seqObj "list" vs.toArray 0) := Heap.get?_push_size _ rfl
  refine wpAny_bind (wpAny_holding (wpAny_call_entry PyProof.Rows.slot_list_sort ⟨_, hoL, rfl⟩ PyProof.Rows.entry_list_sort
    (list_sort_treeK (s := { s1 with heap := s1.heap.push (seqObj "list" vs.toArray 0) }) strKind_oneLt hoL hI.keysOf (fun v₁ v₂ rest e => keyKind_strs (by rw [← e]; exact hI)) (by rw [vl]; exact h64) fun st' hp hs => ⟨_, rfl, ?_⟩) (PyProof.Rows.args_list_sort _)))
  obtain ⟨ss, h1, h2, h3⟩ := sorted_out_str hI hp hs
  obtain ⟨c, hc⟩ := PyProof.Rows.sortedHeap_at (vs := vs) (out := (arrOf st').map (·.2)) hoL
  have pn : ss.Perm (es.toList.map txtOf) := h2.trans pk
  refine wpAny_pure ⟨_, rfl, hQ _ s1.heap.objs.size _ c ss (fun b u e => ?_) g1 o1 hz hc h1 h3 (pn.nodup_iff.mpr nd) (fun k => by rw [pn.mem_iff, ← mem k]) ?_⟩
  · have q := k1 b u e
    have hlt := Heap.lt_size q
    rw [PyProof.Rows.sortedHeap_old (Nat.ne_of_lt hlt) (by rw [size_push']; exact Nat.lt_succ_of_lt hlt)]
    exact Heap.get?_push_of_some _ q
  · rw [pn.length_eq, List.length_map, Array.length_toList]; exact hn
end
def tSortSetS (K : Kf) (te : TE) : TE := fun σ H Q => te σ H fun x H1 => ∃ (l : Addr) (ns : List Str), x = .ref l ∧ SqL K H1 l (ns.map V.str) ∧ ns.length ≤ 50 ∧ ∀ (ys : List Str) (p : Addr), sortedS ys = true → ys.Nodup → (∀ k, k ∈ ys ↔ k ∈ ns) → ys.length ≤ ns.length → H1 p = none → Q (.ref p) (upd H1 p (.lst (ys.map V.str)))
section
variable {X : Cx} {a : Expr} {ta : TE} {p p2 q pos : Pos}
theorem pe_sortSetS (hc : X.calm = true) (hg : Gl X "sorted") (hm : X.mg "sorted" = none) (hg2 : Gl X "set") (hm2 : X.mg "set" = none) (ha : PE X a ta)
    (na : starEach [a] X.env = (false, eval a X.env) :: starEach [] X.env := by rfl) (nr : starEach [.Call (.Name "set" p2) [a] [] q] X.env = (false, eval (.Call (.Name "set" p2) [a] [] q) X.env) :: starEach [] X.env := by rfl) : PE X (.Call (.Name "sorted" p) [.Call (.Name "set" p2) [a] [] q] [] pos) (tSortSetS X.K ta) := by
  refine ⟨fun pins s σ H Q I h => ?_⟩
  refine Call_ (ld_blt I hg hm boot_sorted ?_)
  refine PyProof.Rows.callWith_builtin1 (PyProof.Rows.args_cons ?_ nr) nr rfl
  refine Call_ (ld_blt I hg2 hm2 boot_set ?_)
  refine PyProof.Rows.callWith_type1 (PyProof.Rows.args_cons (thn (ha.run pins s σ H _ I h) fun v s1 ⟨x, H1, I1, r1, q1⟩ => PyProof.Rows.args_nil ?_) na) na rfl
  obtain ⟨l, ns, rfl, hq, hl, q1⟩ := q1
  cases r1
  obtain ⟨its, r, pl, hz⟩ := I1.list hq
  refine set_of_listT (ns := ns) (I1.ok.hd hc) pl.isList (by simpa using strsAre_of r) (by unfold scanBound; omega) fun s' ⟨h', tk, c, e, R, hcn, keep⟩ => ?_
  subst e
  refine PyProof.Rows.args_nil ?_
  have I2 : L2.Inv X pins σ H1 { s1 with heap := h', toks := tk } := I1.kept keep
  refine sort_setT (s := { s1 with heap := h', toks := tk }) R (I1.ok.hd hc) (by omega) fun s2 pn out c2 ys k g o hp hget hv hs hnd hmem hlen => ?_
  have hn : H1 pn = none := I2.hok.fresh hp
  have J : L2.Inv X pins σ (upd H1 pn (.lst (ys.map V.str))) { ({ s1 with heap := h', toks := tk } : Shared) with heap := s2.heap, gens := s2.gens, drawn := s2.drawn, toks := s2.toks } :=
    I2.call (ch := []) (Un.laid k hp hn) (I2.hok.laid k hp ⟨by rw [List.length_map, hlen, sizeLine_eq]; omega, out.toList, c2, vals_of_strs hv, hget⟩) (by rw [g]; exact I2.bare) (fun _ z => nomatch z)
  have e : s2 = { ({ s1 with heap := h', toks := tk } : Shared) with heap := s2.heap, gens := s2.gens, drawn := s2.drawn, toks := s2.toks } := by
    cases s2; cases o; rfl
  rw [e]
  exact ⟨.ref pn, _, J, rfl, q1 ys pn hs hnd (fun k => by rw [hmem k]; exact decide_eq_true_iff) (by omega) hn⟩
end
def dSortSetS (de : DE) : DE := fun S post => de S fun x => ∃ ns : List Str, x.lsti = some (ns.map PyData.str) ∧ ns.length ≤ 50 ∧ ∀ ys : List Str, sortedS ys = true → ys.Nodup → (∀ k, k ∈ ys ↔ k ∈ ns) → ys.length ≤ ns.length → post (.py (.list (ys.map PyData.str)))
section
variable {X : Cx} {B : List Addr} {H0 : Hp} {e : Expr} {de : DE} {p p2 q pos : Pos}
theorem pd_sortSetS (T : Bl X.mg) (hc : X.calm = true) (he : PD X B H0 e de) (hg : Gl X "sorted" := by rfl) (hg2 : Gl X "set" := by rfl)
    (na : starEach [e] X.env = (false, eval e X.env) :: starEach [] X.env := by rfl) (nr : starEach [.Call (.Name "set" p2) [e] [] q] X.env = (false, eval (.Call (.Name "set" p2) [e] [] q) X.env) :: starEach [] X.env := by rfl) : PD X B H0 (.Call (.Name "sorted" p) [.Call (.Name "set" p2) [e] [] q] [] pos) (dSortSetS de) :=
  PEmono (pe_sortSetS hc hg T.sorted hg2 T.set he na nr) fun σ H Q ⟨G, S, post, hs, hd, hq⟩ => by
  refine ⟨G, S, _, hs, hd, fun v d G1 H1 s1 r1 p1 => ?_⟩
  obtain ⟨ns, e1, hl, p1⟩ := p1
  obtain ⟨l, vs, rfl, h1, h2⟩ := rp_lst s1.wd r1 e1
  have := h2.strs
  subst this
  exact ⟨l, ns, rfl, SqL.of h1, hl, fun ys pn k1 k2 k3 k4 k5 => hq _ _ _ _ (s1.trans (Stp.new s1.wd k5 _)) (Rp.ofDt (Dt.newL (s1.wd.sub.free k5) (DtAll.ofStrs ys))) (p1 ys k1 k2 k3 k4)⟩
end
end DL
/- ==== DMm ==== -/
/-! DMm: errors with attributes of their own: made, raised, asked. -/
namespace PySem.W
open PySem PySem.Spec PySem.Calls PyProof.Rows
section
variable {prog : Program} {w : World} {A : Around} {E : Value → Shared → Prop} {s : Shared} {K : Frag} {x D : Addr} {ox : Obj} {od : Option Obj}
theorem its_class {Q : Option Value → Shared → Prop} (C : L2.ExcC K D) (X : K.In s.heap) (I : InstAt s.heap x ox D od) (q : Q (some (.ref D)) { s with toks := s.toks + 1 }) : wpAny (model prog w) A (getAttr? (.ref x) "__class__") Q E s := by
  obtain ⟨cd, hc, _⟩ := any_some C.hd
  have found : findObj K D od "__class__" = some (.bind (.builtin "getset_descriptor.__get__") (.builtin "object.__class__")) := by
    unfold findObj
    rw [hc, Option.bind_some, C.ha, Option.bind_some]; simp [C.hn, C.ht]
  obtain ⟨hp, g, dr, tk, os⟩ := s
  have seeT := I.type (M := model prog w); have seeG := looks_findIn (M := model prog w) X C.hg; have seeK := looks_findIn (M := model prog w) X C.hk; have seeF := looks_find (M := model prog w) X I found
  have isB : Looks (model prog w) hp (isInstance (.ref x) (.type "BaseException")) true := seeT.andThen (looks_subIn X C.hs)
  have n0 : (Value.builtin "BaseException.__getattribute__" == Value.builtin "object.__getattribute__") = false := by decide +kernel
  unfold getAttr?; unfold getAttrBy?; unfold getAttrBy; refine wpAny_bind (wpAny_mkText (wpAny_bind (wpAny_attempt (wpAny_holding (wpAny_bind (seeT.at (wpAny_bind (seeG.at ?_))))))))
  refine (show wpAny _ _ (if (onTheHeap (Value.ref D) && Value.builtin "BaseException.__getattribute__" == Value.builtin "object.__getattribute__") = true then _ else _) _ _ _ from ?_)
  rw [show (onTheHeap (Value.ref D) && Value.builtin "BaseException.__getattribute__" == Value.builtin "object.__getattribute__") = false from by rw [n0]; rfl, if_neg Bool.false_ne_true]
  unfold getAttrByItsOwn; unfold hookBefore; refine wpAny_bind ?_
  rw [if_pos (show onTheHeap (Value.ref D) = true from rfl)]; refine seeK.at (wpAny_bind (wpAny_attempt (wpAny_holding ?_)))
  unfold callGetattribute; rw [show (false && onTheHeap (Value.builtin "BaseException.__getattribute__")) = false from rfl, if_neg Bool.false_ne_true]
  unfold boundAndCalled; rw [PySem.F.excAttr_ValueError.ga.bind (.ref x)]; refine wpAny_bind (wpAny_pure ?_)
  refine wpAny_call (codeAny_call_builtin PySem.F.excAttr_ValueError.ga.plain PySem.F.entry_bexc_ga (@check_slot (model prog w) _ _ ⟨hp, g, dr, tk + 1, os⟩ "BaseException.__getattribute__" "BaseException" "__getattribute__" (.ref x) [.str "__class__" tk] [] _ (by decide +kernel) (by decide +kernel) isB (PySem.F.args_bexc_ga (.ref x) (.str "__class__" tk)) ?_))
  unfold Builtin.«object.__getattribute__»; refine wpAny_bind (wpAny_of_eq (a := ((Value.ref x : Value), [Value.str "__class__" tk])) (by first | rfl | (simp only [slotArgs]; rfl)) (wpAny_bind (wpAny_pure (wpAny_bind (seeT.at (wpAny_bind (seeF.at ?_)))))))
  refine wpAny_bind (wpAny_holding (wpAny_call (class_get (s := ⟨hp, g, dr, tk + 1, os⟩) (ox := ox) (od := od) X I C.hm (wpAny_pure ?_))))
  refine (show wpAny _ _ (handedOut (.ref D)) _ _ _ from ?_)
  rw [handedOut_of (v := .ref D) rfl]
  first
    | exact wpAny_pure (wpAny_pure q)
    | exact wpAny_pure q
    | exact wpAny_pure (wpAny_bind (wpAny_pure (wpAny_pure q)))
theorem kit_error (C : L2.ExcC K D) : KitX K (.ref x) (.ref D) (fun h => InstAt h x ox D od) where
  ty := fun _ _ _ I => I.type
  it := fun M h X I => by
    obtain ⟨cd, hcd, _⟩ := any_some C.hd
    unfold clsIn at hcd
    split at hcd
    · rename_i c' d' cd' sl' ho
      intro A' Q' E' s' k q'
      unfold isType; unfold loadHead
      exact wpAny_bind (wpAny_loadPart (k _ _ (X _ _ ho)) (wpAny_pure q'))
    · cases hcd
  ne := fun h tp dd its n sl X htp => (handS_kitx_exc (x := x) (ox := ox) C.hg C.hk C.hs C.hd C.ha C.hn C.ht C.hm).ne h tp dd its n sl X htp
  ca := fun X I k => its_class C X I k
end
end PySem.W
namespace DL
open PySem PySem.Spec PyProof.Rows PySem.Calls L2 RZ
/-! ### isinstance(e, C), e.f: e the error at hand, with attributes -/
def rIsO (K : Kf) (Dc a dd : Addr) : List V → Hp → VK → Prop := fun xs H Q => ∃ (c : V) (cv : Value) (b : Bool) (fs : List (Str × V)), xs = [.ref a, c] ∧ (∀ u, RelV c u → u = cv) ∧ PySem.W.kitOne K (.ref Dc) cv = some b ∧ H dd = some (.xd fs) ∧ Q (.bl b) H
theorem call_isO {X : Cx} {a Dc dd : Addr} {oe : Obj} {pn : List (Addr × Obj)} (C : ExcC X.K Dc) (hz : Zc (.ref Dc) (some dd) oe) (hf : ∃ vs, oe.data = .fields vs) : CallR (X.suite a ((a, oe) :: pn)) (.builtin "isinstance") (rIsO X.K Dc a dd) := by
  intro pins s σ H xs us Q I r h
  obtain ⟨c, cv, b, fs, rfl, hcv, e, ed, q⟩ := h
  cases r with
  | cons rx rr =>
    cases rr with
    | cons rt rr =>
      cases rr; cases rx
      have ec := hcv _ rt; subst ec
      obtain ⟨hget, _⟩ := I.pin (a, oe) (List.mem_append.mpr (.inl List.mem_cons_self))
      obtain ⟨vs, hv⟩ := hf
      obtain ⟨mA, hns, _⟩ : ObjOk X.prog X.w H s.heap dd (.xd fs) := I.hok dd _ ed
      obtain ⟨od, ho, _⟩ := lookIn_ns hns
      have J : PySem.W.InstAt s.heap a oe Dc (some od) := ⟨hget, hz.1, by unfold PySem.W.notCls; rw [hv], by rw [hz.2]; exact ho⟩
      exact PySem.W.kia_one (PySem.W.kit_error C) I.kIn J e (fun z => nomatch z) fun tk => ⟨.bl b, H, I.kept (t' := tk) fun _ _ z => z, rfl, q⟩
def fIsO (K : Kf) (Dc a dd : Addr) : List D → (D → Prop) → Prop := fun xs post => match xs with
  | [.ex b d2 _, .raw (.ref c)] => b = a ∧ d2 = dd ∧ ∃ k, PySem.W.kitOne K (.ref Dc) (.ref c) = some k ∧ post (.py (.bool k))
  | [.ex b d2 _, .raw (.ty n)] => b = a ∧ d2 = dd ∧ ∃ k, PySem.W.kitOne K (.ref Dc) (.type n) = some k ∧ post (.py (.bool k))
  | _ => False
theorem cd_isO {K : Kf} {B : List Addr} {Dc a dd : Addr} : CallD K B (rIsO K Dc a dd) (fIsO K Dc a dd) := fun G H xs dxs post Q w r hf hq => by
  unfold fIsO at hf
  split at hf
  · cases r with
    | cons r1 rn =>
      cases rn with
      | cons r2 rn =>
        cases rn
        obtain ⟨rfl, rfl, k, h1, h2⟩ := hf
        obtain ⟨rfl, vs, g1, _⟩ := r1; cases r2
        exact ⟨_, _, k, vs, rfl, fun u h => h, h1, w.sub _ _ g1, stay w hq (.bl _) h2⟩
  · cases r with
    | cons r1 rn =>
      cases rn with
      | cons r2 rn =>
        cases rn
        obtain ⟨rfl, rfl, k, h1, h2⟩ := hf
        obtain ⟨rfl, vs, g1, _⟩ := r1; cases r2
        exact ⟨_, _, k, vs, rfl, fun u h => h, h1, w.sub _ _ g1, stay w hq (.bl _) h2⟩
  · exact hf.elim
section
variable {X : Cx} {B : List Addr} {H0 : Hp} {e c : Expr} {de dc : DE} {p pos : Pos} {a Dc dd : Addr} {oe : Obj} {pn : List (Addr × Obj)}
theorem pd_isO (T : Bl X.mg) (C : ExcC X.K Dc) (hz : L2N.Zn (.ref Dc) (some dd) oe) (hf : ∃ vs, oe.data = .fields vs) (he : PD (X.suite a ((a, oe) :: pn)) B H0 e de) (hc : PD (X.suite a ((a, oe) :: pn)) B H0 c dc) (hg : Gl X "isinstance" := by rfl)
    (s1 : starEach [e, c] X.env = (false, eval e X.env) :: starEach [c] X.env := by rfl) (s2 : starEach [c] X.env = (false, eval c X.env) :: starEach [] X.env := by rfl) (hpl : (backTo pos (starEach [c] X.env)).any (·.1) = false := by rfl) :
    PD (X.suite a ((a, oe) :: pn)) B H0 (.Call (.Name "isinstance" p) [e, c] [] pos) (dCB (fIsO X.K Dc a dd) (dCons de (dCons dc dNil))) :=
  pd_callB (X := X.suite a ((a, oe) :: pn)) (call_isO C hz.zc hf) cd_isO hg T.isinstance bo_isinstance (pda_cons he (pda_cons hc pda_nil s2) s1) (by decide) (by decide) s1 hpl
def dXf (a dd : Addr) (f : Str) (de : DE) : DE := fun S post => de S fun x => match x with
  | .ex b d2 fs => b = a ∧ d2 = dd ∧ ∃ q, fs.lookup f = some q ∧ post (.py q)
  | _ => False
theorem kv_find {K : Kf} {G : Hp} {f : Str} {q : PyData} : ∀ {vs : List (Str × V)} {fs : List (Str × PyData)}, KvR K G vs fs → fs.lookup f = some q → ∃ v, vs.lookup f = some v ∧ Dt K G v q
  | _, _, .nil, h => by cases h
  | _, _, .cons (a := x) (b := y) r t, h => by
    obtain ⟨k, v⟩ := x
    obtain ⟨k', d⟩ := y
    obtain ⟨e1, e2⟩ := r
    cases e1
    rw [List.lookup_cons] at h ⊢
    cases z : (f == k) with
    | true => rw [z] at h; cases h; exact ⟨v, rfl, e2⟩
    | false => rw [z] at h; exact kv_find t h
theorem pd_xf {n : Str} (T : XfC X.K Dc) (hno : PySem.W.findIn X.K (.ref Dc) n = some none) (hz : L2N.Zn (.ref Dc) (some dd) oe) (hf : ∃ vs, oe.data = .fields vs) (he : PD (X.suite a ((a, oe) :: pn)) B H0 e de) (hb : attributeBase e n X.env (eval e X.env) = eval e X.env := by rfl) :
    PD (X.suite a ((a, oe) :: pn)) B H0 (.Attribute e n pos) (dXf a dd n de) := PEmono (pe_xf T hno hz.zc hf he hb) fun σ H Q ⟨G, S, post, hs, hd, hq⟩ => by
  refine ⟨G, S, _, hs, hd, fun v d G1 H1 s1 r1 p1 => ?_⟩
  split at p1
  · obtain ⟨rfl, rfl, q, hl, hp⟩ := p1
    obtain ⟨rfl, vs, g1, kv⟩ := r1
    obtain ⟨u, l2, r2⟩ := kv_find kv hl
    exact ⟨rfl, rfl, _, vs, u, rfl, s1.wd.sub _ _ g1, l2, hq u (.py q) G1 H1 s1 r2 hp⟩
  · exact p1.elim
end
end DL
/- ==== DMn ==== -/
/-! DMn: raise C(n), C keeping n under a name. -/
namespace DL
open PySem PySem.Spec PyProof.Rows PySem.Calls L2 RZ
section
variable {X : Cx} {e : Expr} {es : List Expr} {ta : TA} {f : Str} {p p1 p2 pos : Pos}
/-- Base.__init__(self, ..), Base a class of the module whose __init__ is ValueError's -/
theorem pe_baseinit {b : Str} {CL : Addr} {pl : Sem Bool} (hg : Gl X b) (hm : X.mg b = some (.ref CL)) (hdb : (b == ("__debug__" : Str)) = false) (tg : PySem.W.specialIn X.K (.ref CL) "__getattribute__" = some (some (.builtin "type.__getattribute__")))
    (rd : PySem.W.readsIn X.K CL (.type "type") = true) (vV : PySem.W.findCls X.K (.ref CL) (.type "type") "__init__" = some (.val (.builtin "ValueError.__init__"))) (ha : PA X (e :: es) ta)
    (hc : eval (.Call (.Attribute (.Name b p1) "__init__" p2) (e :: es) [] pos) X.env = (do
      let ov ← eval (.Name b p1) X.env
      standAt p2.atName
      let (f, first) ← holding [ov] (getMethod ov "__init__" pl)
      callWith pos f first (backTo pos (starEach (e :: es) X.env)) (backToKw pos (keywordEach [] X.env))) := by rfl)
    (he : starEach (e :: es) X.env = (false, eval e X.env) :: starEach es X.env := by rfl) (hpl : (backTo pos (starEach es X.env)).any (·.1) = false := by rfl) :
    PE X (.Call (.Attribute (.Name b p1) "__init__" p2) (e :: es) [] pos) (tVeI X.K ta) := by
  refine ⟨fun pins s σ H Q I h => PySem.W.methodCall_KW (ld_glob I hg hm ?_ hdb) hc⟩
  refine PySem.W.method_cls I.kIn tg (PySem.W.cls_value I.kIn rd vV (by decide +kernel) ?_)
  refine (show wpAny _ _ (callWith pos (Value.builtin "ValueError.__init__") [] (backTo pos (starEach (e :: es) X.env)) []) _ _ _ from PyProof.Rows.callWith_method1 (thn (ha.run pos pins _ σ H _ (I.tok _) h) fun us s1 ⟨vs, H1, I1, r1, a, C, ws, ev, hl, T, ea, q⟩ => ?_) he hpl)
  subst ev
  cases r1 with
  | @cons _ u0 _ ur ra rw' =>
    obtain rfl : u0 = Value.ref a := ra
    exact oinit_ok T I1 ea (by rw [← Paired.length rw', sizeLine_eq]; omega) fun s' J => ⟨.non, H1, J, rfl, q⟩
end
/-- what __init__(self, n) leaves: n kept as f -/
def spIni (K : Kf) (f : Str) : Sp := fun vs H Q _ => ∃ (a C : Addr) (n : Int), vs = [.ref a, .int n] ∧ OexC K C ∧ PySem.W.findIn K (.ref C) f = some none ∧ H a = some (exo a C none) ∧ ∀ dx, H dx = none → dx ≠ a → Q .non (upd (upd H dx (exd dx [(f, .int n)])) a (exo a C (some dx)))
/-- a class of errors made with a number -/
structure ExcO (P : Program) (w : World) (K : Kf) (mg : Str → Option Value) (base : Heap) (x : Str) (C : Addr) (k : Nat) (f : Str) : Prop where
  g : mg x = some (.ref C)
  oc : OexC K C
  no : PySem.W.findIn K (.ref C) f = some none
  ini : ∃ (fI : Addr) (fd : FuncData) (ps : List Str), PySem.W.findIn K (.ref C) "__init__" = some (some (.ref fI)) ∧ PySem.W.typeIn K (.ref fI) = some (.type "function") ∧ FnOk P w K mg base CX0 k fI fd ps (spIni K f) ∧ Binds K fd ps []
section
variable {X : Cx} {B : List Addr} {H0 G0 : Hp} {e : Expr} {es : List Expr} {ra : DA} {ta : TA} {x f : Str} {C : Addr} {k : Nat} {p pos pos' : Pos} {px : XP}
theorem pmkN {fI : Addr} {fd : FuncData} {ps : List Str} {sp : Sp} (T : OexC X.K C) (iC : PySem.W.findIn X.K (.ref C) "__init__" = some (some (.ref fI))) (tI : PySem.W.typeIn X.K (.ref fI) = some (.type "function"))
    (F1 : FnOk X.prog X.w X.K X.mg X.base CX0 k fI fd ps sp) (hr : Room (k + 1) X.A) (hb : Binds X.K fd ps []) (hg : Gl X x) (hm : X.mg x = some (.ref C)) (ha : PA X (e :: es) ta)
    (hdb : (x == ("__debug__" : Str)) = false := by decide) (he : starEach (e :: es) X.env = (false, eval e X.env) :: starEach es X.env := by rfl) (hpl : (backTo pos (starEach es X.env)).any (·.1) = false := by rfl) :
    L2N.PMk X (.Call (.Name x p) (e :: es) [] pos) (tMkO C sp [] ta) := fun pins s σ H Q I h => by
  obtain ⟨nm, q, N, bs, bm, sn, sub, ab, col, dd, k0, k1, k2, k3, k5, hC, hbm⟩ := T.cls
  refine wpAny_Call_Name_kw (ld_glob I hg hm (PySem.W.callWith_K (h₀ := X.base) I.ok.mod.kin T.kC (thn (ha.run pos pins s σ H _ I h) fun us s1 ⟨vs, H1, I1, r1, hz, q1⟩ => ⟨I1.kIn, ?_⟩) he hpl) hdb)
  obtain ⟨h1, gs, dr, tk, os⟩ := s1
  refine (show wpAny _ _ (call (.ref C) us) _ _ _ from ?_)
  have big : h1.objs.size ≤ h1.objs.size + 1 := Nat.le_succ _
  have q2 := q1 (h1.objs.size + 1) (I1.hok.fresh big)
  rw [List.append_nil] at q2
  have up2 : ∀ b o, h1.get? b = some o → ((h1.push (PySem.W.kdv_tup us)).push (PySem.HandSPX.excO C h1.objs.size)).get? b = some o := fun b o z => Heap.get?_push_of_some _ (Heap.get?_push_of_some _ z)
  have there : ((h1.push (PySem.W.kdv_tup us)).push (PySem.HandSPX.excO C h1.objs.size)).get? (h1.objs.size + 1) = some (PySem.HandSPX.excO C h1.objs.size) := by heap_get
  have I2 := I1.laid (t' := tk) (o := exo (h1.objs.size + 1) C none) up2 big (exo_ok there)
  have r2 : Vals (V.ref (h1.objs.size + 1) :: vs) (Value.ref (h1.objs.size + 1) :: us) := .cons rfl r1
  have len2 : (Value.ref (h1.objs.size + 1) :: us ++ []).length = ps.length := by rw [List.append_nil]; have z := r2.length; rw [F1.len _ _ _ _ q2] at z; exact z.symm
  have b2 := hb _ (Value.ref (h1.objs.size + 1) :: us) I2.kIn len2
  rw [List.append_nil] at b2
  have few : us.length ≤ sizeLine := by rw [← Paired.length r1, sizeLine_eq]; omega
  have run := F1.run _ X.stack _ _ ⟨Value.ref (h1.objs.size + 1) :: us, []⟩ (Value.ref (h1.objs.size + 1) :: us) _ _ (fun _ _ _ => False) (hr.make C us []) (I2.env0.make C us []) b2 r2 q2
  refine wpAny_call (PySem.HandSPX.call_own F.excBase_ValueError (fun Y => PySem.HandSPX.refsVE_contains Y bm hbm) (I1.kIn _ _ hC) (PySem.W.looks_findIn I1.kIn iC) (fun self => PySem.W.bind_fn I1.kIn self tI) few (codeAny_mono run fun r s' out => ?_))
  match r, out with
  | .error er, out => exact out.elim
  | .ok .next, out => exact out.elim
  | .ok .brk, out => exact out.elim
  | .ok .cont, out => exact out.elim
  | .ok (.ret u), out =>
    obtain ⟨v, H2, os2, bare2, un2, hok2, rv, rfl, d, fs, ea, ed, hd1, q3⟩ := out
    obtain ⟨h2, g2, d2, t2, os'⟩ := s'
    obtain ⟨t0, G, J, kG, ge, hoe, na⟩ := mk_end0 (d2 := d2) (t2 := t2) I1 big up2 un2 hok2 os2 bare2 ea ed hd1
    exact ⟨rv, h1.objs.size + 1, _, _, ⟨G, g2, d2, t2, os'⟩, _, .ref C, some d, rfl, J, kG, ge, hoe, ⟨rfl, rfl, fun vs hv => by cases hv; rfl⟩, rfl, rfl, na, rfl, bare2, raises_own T.exC T.tyC, q3⟩
theorem pdx_raiseO (hc : X.calm = true) (tk : L2N.Takes X (wX X.K B G0 H0 px)) (T : ExcO X.prog X.w X.K X.mg X.base x C k f) {j : Nat} (hr : Room j X.A) (ha : PDA X B H0 (e :: es) ra) (hjk : k + 1 ≤ j := by decide) (hg : Gl X x := by rfl) (hdb : (x == ("__debug__" : Str)) = false := by decide)
    (he : starEach (e :: es) X.env = (false, eval e X.env) :: starEach es X.env := by rfl) (hpl : (backTo pos (starEach es X.env)).any (·.1) = false := by rfl) :
    PDX X B H0 G0 (.Raise (some (.Call (.Name x p) (e :: es) [] pos)) none pos') (fun _ S => ra S fun xs => ∃ n : Int, xs = [.py (.int n)] ∧ px (.ref C) [(f, .int n)]) := by
  obtain ⟨fI, fd, ps, iC, tI, F1, hb⟩ := T.ini
  refine PSmono (L2N.ps_raise hc tk (pmkN T.oc iC tI F1 (hr.mono hjk) hb hg T.g ha hdb he hpl)) fun D σ H ⟨E, ⟨G, S, hs, ho, hd⟩, _⟩ => ?_
  refine ⟨G, S, _, hs, hd, fun vs xs G1 H1 s1 r1 p1 => ?_⟩
  obtain ⟨n, rfl, hp⟩ := p1
  cases r1 with
  | cons r1 rn =>
    cases rn
    cases r1
    refine ⟨(by show 1 ≤ 1000; decide), fun a na => ⟨a, C, n, rfl, T.oc, T.no, upd_same, fun dx ndx ne => ?_⟩⟩
    rw [upd_ne ne] at ndx
    have e1 : upd (upd (upd H1 a (exo a C none)) dx (exd dx [(f, .int n)])) a (exo a C (some dx)) dx = some (exd dx [(f, .int n)]) := by rw [upd_ne ne, upd_same]
    refine ⟨rfl, dx, _, upd_same, e1, ndx, ?_⟩
    have e2 : upd (del (upd (upd (upd H1 a (exo a C none)) dx (exd dx [(f, .int n)])) a (exo a C (some dx))) a) dx (.xd [(f, .int n)]) = upd H1 dx (.xd [(f, .int n)]) := by
      funext b
      by_cases hb : b = dx
      · subst hb; rw [upd_same, upd_same]
      · rw [upd_ne hb, upd_ne hb]
        by_cases hb2 : b = a
        · subst hb2; rw [del_same, na]
        · rw [del_ne hb2, upd_ne hb2, upd_ne hb, upd_ne hb2]
    rw [e2]
    have st := Stp.new s1.wd ndx (.xd [(f, .int n)])
    exact ⟨_, [(f, .int n)], st.wd, ho.trans (s1.trans st).toOld, ⟨by simp, _, upd_same, .cons ⟨rfl, .int n⟩ .nil⟩, hp⟩
end
end DL
/- ==== DMo ==== -/
/-! DMo: two clauses that name the error: the first one's has attributes, the second one's has none. -/
namespace DL
open PySem PySem.Spec PyProof.Rows PySem.Calls L2 RZ HotX L2H
def dTryFn2 (P : Program) (w : World) (K : Kf) (mg : Str → Option Value) (base : Heap) (B : List Addr) (k ic i : Nat) (C1 C2 : Addr) (fld : Str) (ra : DA) (su1 : Addr → Addr → Addr → DS) (su2 : Addr → Addr → DS) : DS := fun E S => ∃ (L : LamD) (j n : Nat) (C : CtX) (px : XP), S[ic]? = some (some (.fn L)) ∧ LamCal P w K mg base L j n C ∧ j ≤ k ∧
  (ra S fun xs => C B xs (fun _ => E.nx S) px) ∧ ∀ cls fs, px cls fs →
    (fs = [] ∧ ∃ Dc, cls = .ref Dc ∧ ExcC K Dc ∧ PySem.W.exmOne K cls (.ref C1) = some false ∧ PySem.W.exmOne K cls (.ref C2) = some true ∧ ∀ a, su2 a Dc (slotEnd i E) (S.set i (some (.raw (.ref a))))) ∨
    (fs ≠ [] ∧ ∃ Dc, cls = .ref Dc ∧ ExcC K Dc ∧ PySem.W.findIn K (.ref Dc) fld = some none ∧ PySem.W.exmOne K cls (.ref C1) = some true ∧ ∀ a dd, su1 a Dc dd (slotEnd i E) (S.set i (some (.ex a dd fs))))
theorem ExcC.xf {K : Kf} {Dc : Addr} (C : ExcC K Dc) : XfC K Dc := ⟨C.hg, C.hk, C.hs, C.hd⟩
section
variable {X : Cx} {B : List Addr} {H0 : Hp} {e : Expr} {es : List Expr} {ra : DA} {x x1 x2 n fld : Str} {C1 C2 : Addr} {i ic k : Nat} {b₁ b₂ : Stmt} {s1 s2 : List Stmt} {su1 : Addr → Addr → Addr → DS} {su2 : Addr → Addr → DS} {p np1 np2 hp1 hp2 pos pos2 pos3 : Pos}
theorem psd_tryFn2 (hst : X.stack = X.env :: X.outer) (hf : X.env.frame = some X.env.locals) (hN : X.N.Nodup) (hi : X.N[i]? = some n) (hln : X.env.kindOf n = some .local) (c1 : Names X x1 (.ref C1)) (c2 : Names X x2 (.ref C2))
    (hNc : X.N[ic]? = some x) (hv : Vis X.env.scope x) (hr : Room k X.A) (ha : ∀ pn xe, PDA (X.tr pn xe) B H0 (e :: es) ra)
    (hs1 : ∀ (a : Addr) (oe : Obj) (Dc dd : Addr) (pn : List (Addr × Obj)), L2N.Zn (.ref Dc) (some dd) oe → (∃ vs, oe.data = .fields vs) → ExcC X.K Dc → PySem.W.findIn X.K (.ref Dc) fld = some none → PDSs (X.suite a ((a, oe) :: pn)) B H0 (b₁ :: s1) (su1 a Dc dd))
    (hs2 : ∀ (a : Addr) (oe : Obj) (Dc : Addr) (pn : List (Addr × Obj)), L2N.Zn (.ref Dc) none oe → (∃ vs, oe.data = .fields vs) → ExcC X.K Dc → PDSs (X.suite a ((a, oe) :: pn)) B H0 (b₂ :: s2) (su2 a Dc))
    (hd : (x == ("__debug__" : Str)) = false := by decide) (hcd : (x == ("__classdict__" : Str)) = false := by decide)
    (he : starEach (e :: es) X.env = (false, eval e X.env) :: starEach es X.env := by rfl) (hpl : (backTo pos (starEach es X.env)).any (·.1) = false := by rfl) (hsw : swapsWith (.Call (.Name x p) (e :: es) [] pos) none pos2.line X.env = pure false := by rfl) :
    PDS X B H0 (.Try [.Expr (.Call (.Name x p) (e :: es) [] pos) pos2] [.ExceptHandler (some (.Name x1 np1)) (some n) (b₁ :: s1) hp1, .ExceptHandler (some (.Name x2 np2)) (some n) (b₂ :: s2) hp2] [] [] pos3)
      (dTryFn2 X.prog X.w X.K X.mg X.base B k ic i C1 C2 fld ra su1 su2) :=
  PSmono (ps_try_all (tb := fun V => tDrop (tCallFn X.prog X.w X.K X.mg X.base B H0 k ic V ra)) (l := [(.ref C1, fun a cls d D σ H => ∃ Dc dd, (cls = .ref Dc ∧ d = some dd ∧ ExcC X.K Dc ∧ PySem.W.findIn X.K (.ref Dc) fld = some none) ∧ lS X.K B H0 (su1 a Dc dd) D σ H), (.ref C2, fun a cls d D σ H => ∃ Dc, (cls = .ref Dc ∧ d = none ∧ ExcC X.K Dc) ∧ lS X.K B H0 (su2 a Dc) D σ H)]) hst hf hN hi hln nones_takes
      (fun V pn xe tkV => pss_one (ps_expr (pe_callFn (X := X.tr pn xe) (k := k) hNc hv tkV hr (ha pn xe) hd hcd he hpl) hsw))
      (.cons c1 (fun a oe cls d pn hz hfl => ⟨fun pins s σ H D I ⟨Dc, dd, ⟨e1, e2, e3, e4⟩, h⟩ => by
        subst e1 e2
        exact (hs1 a oe Dc dd pn hz hfl e3 e4).run pins s σ H D I h⟩) (.cons c2 (fun a oe cls d pn hz hfl => ⟨fun pins s σ H D I ⟨Dc, ⟨e1, e2, e3⟩, h⟩ => by
        subst e1 e2
        exact (hs2 a oe Dc pn hz hfl e3).run pins s σ H D I h⟩) .nil)))
    fun D σ H ⟨G0, E, ⟨G, S, hs, ho, L, j, m, C, px, hS, hL, hj, hra, hx⟩, q1, q2, q3, q4⟩ =>
      ⟨G, S, L, j, m, C, _, px, hs, hS, hL, hj, hra, fun v d G' H' st r p => q1 _ _ ⟨G', S, hs.step st, ho.trans st.toOld, p⟩, fun cls d fs G' H' st xd p => by
        have out : ∀ {σ' : L2.St} {H' : Hp} {Z : Slots → Prop}, nxOf X.K B G0 H0 (fun S' => Z (S'.set i none)) σ' H' → nxOf X.K B G0 H0 Z (σ'.set i none) H' := fun ⟨G2, S2, k1, k2, k3⟩ => ⟨G2, _, k1.clear i none, k2, k3⟩
        rcases hx cls fs p with ⟨rfl, Dc, rfl, ek, e1, e2, hsd⟩ | ⟨ne, Dc, rfl, ek, ef, e1, hsd⟩
        · cases d with
          | some dx => exact absurd rfl xd.1
          | none => exact ⟨false, e1, fun z => (by cases z), fun _ => ⟨true, e2, fun _ a _ => ⟨Dc, ⟨rfl, rfl, ek⟩, G0, slotEnd i E, ⟨G', _, (hs.step st).set i (d := .raw (.ref a)) (v := .ref a) rfl free_raw, ho.trans st.toOld, hsd a⟩, fun σ' H' z => q1 _ _ (out z), q2, fun σ' H' z => q3 _ _ (out z), fun σ' H' z => q4 _ _ (out z)⟩, fun z => (by cases z)⟩⟩
        · cases d with
          | none => exact absurd xd ne
          | some dx => exact ⟨true, e1, fun _ a _ => ⟨Dc, dx, ⟨rfl, rfl, ek, ef⟩, G0, slotEnd i E, ⟨G', _, (hs.step st).set i (d := .ex a dx fs) (v := .ref a) ⟨rfl, xd.2⟩ free_ex, ho.trans st.toOld, hsd a dx⟩, fun σ' H' z => q1 _ _ (out z), q2, fun σ' H' z => q3 _ _ (out z), fun σ' H' z => q4 _ _ (out z)⟩, fun z => (by cases z)⟩⟩
end
/-! ### a def whose code object is known -/
theorem calDc {P : Program} {w : World} {K : Kf} {mg : Str → Option Value} {base : Heap} {x : Str} {st : Stmt} {N ps : List Str} {k : Nat} {C : Ct} {f c : Addr} {fd : FuncData} (hm : mg x = some (.ref f)) (F : FunD K x x (defArgs st) (defBody st) (defScope st) [] [] f fd) (hcode : ∀ oc od fd' osl, K.lookup f = some ⟨oc, od, .func fd', osl⟩ → fd'.code = .ref c) (S : FnScope N ps (defScope st)) (len : ∀ B ds post, C B ds post → ds.length = ps.length ∧ ∀ d ∈ ds, ¬ d.own)
    (hb : ∀ (dV kV doc pm : Value) (an : Option Addr) (cdv ct : Value) (us : List Value), us.length = ps.length → bindArgs (PySem.W.fnOf x x (defArgs st) (defBody st) (defScope st) .none kV doc pm an cdv ct) ⟨us, []⟩ = pure (ps.zip us))
    (hbody : ∀ (f : Addr) (A : Around) (outer : List Env) (s : Shared) (H : Hp) (E : XK) (B : List Addr) (ds : List D) (post : D → Prop), Room k (A.deeper (envOfC x (defScope st) s.heap.objs.size f (.ref c))) → C B ds post →
      ∃ t, PDSs (cxOf CX0 P w K mg base N x (defScope st) f (.ref c) A outer s H E).nox B H (defBody st) t ∧ t { nx := fun _ => post (.py .none), rt := post } (startS N.length ds)) : Cal P w K mg base x ps (k + 1) C := by
  refine ⟨f, fd, hm, ?_, F.kp, BindsL.of F (FunD.bindsN F fun kV doc pm an cdv ct us hl => hb .none kV doc pm an cdv ct us hl)⟩
  obtain ⟨oc, od, dV, kV, doc, pm, an, cdv, ct, osl, rfl, lk, hcd, _, _⟩ := F.ex
  have ec : cdv = .ref c := hcode _ _ _ _ lk
  subst ec
  refine fn_of lk hcd S (fun vs H Q E h => ?_) (fun A outer s H vs Q E hr h => ?_)
  · obtain ⟨B, G, ds, post, _, r, cc, _⟩ := h
    rw [← r.length]; exact (len B ds post cc).1
  · obtain ⟨B, G, ds, post, wd, r, cc, hq⟩ := h
    obtain ⟨t, ht, q⟩ := hbody f A outer s H E B ds post hr cc
    refine ⟨_, ht.nox, ⟨G, _, ⟨G, _, sl_start wd r (len B ds post cc).2, Old.refl, q⟩, fun σ' H' ⟨G', S', h1, h2, h3⟩ => ?_, fun v H' ⟨G', d, h1, h2, h3, h5, h4⟩ => ?_, fun _ _ ⟨_, _, _, _, z⟩ => z, fun _ _ ⟨_, _, _, _, z⟩ => z⟩⟩
    · exact hq .non (.py .none) G' H' ⟨h2, h1.wd⟩ Rp.non h3
    · exact hq v d G' H' ⟨h2, h1⟩ h3 h4
end DL
/- ==== DMp ==== -/
/-! DMp: dicts displayed, updated, locked for good, walked by their keys. -/
namespace DL
open PySem PySem.Spec PyProof.Rows PySem.Calls L2 RZ
/-! ### a dict displayed: written keys -/
def dPrs : List (Str × DE) → Slots → (List (Key × PyData) → Prop) → Prop
  | [], _, post => post []
  | (z, e) :: r, S, post => e S fun x => match x with
    | .py q => dPrs r S fun ps => post ((.inr z, q) :: ps)
    | _ => False
def lPs (K : Kf) (B : List Addr) (H0 : Hp) (ds : List (Str × DE)) (σ : L2.St) (H : Hp) (Q : List (V × V) → Hp → Prop) : Prop := ∃ (G : Hp) (S : Slots) (post : List (Key × PyData) → Prop), Sl K B H0 S σ G H ∧ dPrs ds S post ∧
  ∀ (vs : List (Key × V)) (kvs : List (Key × PyData)) (G' H' : Hp), Stp K B G H G' H' → KvR K G' vs kvs → post kvs → Q (vs.map fun kv => (kV kv.1, kv.2)) H'
def PDPs (X : Cx) (B : List Addr) (H0 : Hp) (pos : Pos) (keys : List (Option Expr)) (values : List Expr) (ds : List (Str × DE)) : Prop := ∃ trs, PPs X pos keys values trs ∧ ∀ σ H Q, lPs X.K B H0 ds σ H Q → tPairs trs σ H Q
def mergeD (kvs more : List (Key × PyData)) : List (Key × PyData) := more.foldl (fun acc kv => putD acc kv.1 kv.2) kvs
theorem kv_merge {K : Kf} {G : Hp} : ∀ {more : List (Key × V)} {ms : List (Key × PyData)} {vs : List (Key × V)} {kvs : List (Key × PyData)}, KvR K G more ms → KvR K G vs kvs → KvR K G (mergeK vs more) (mergeD kvs ms) := by
  intro more ms vs kvs r
  unfold KvR at r
  induction r generalizing vs kvs with
  | nil => intro q; exact q
  | @cons p q ps qs h t ih =>
    intro r0
    have e : KvR K G (putK vs p.1 p.2) (putD kvs q.1 q.2) := by
      have := kv_put (k := p.1) h.2 r0
      rw [← h.1]; exact this
    exact ih e
section
variable {X : Cx} {B : List Addr} {H0 : Hp} {x : Str} {v o e : Expr} {dv : DE} {p1 p2 pos pos' apos cpos : Pos} {keys : List (Option Expr)} {values : List Expr} {ds : List (Str × DE)}
theorem pdps_nil : PDPs X B H0 pos [] [] [] := ⟨[], pps_nil, fun σ H Q ⟨G, S, post, hs, hd, hq⟩ => hq [] [] G H (Stp.refl hs.wd) .nil hd⟩
theorem pdps_cons {z : Str} {j} {pk : Pos} (hv : PD X B H0 v dv) (hr : PDPs X B H0 pos keys values ds) : PDPs X B H0 pos (some (.Constant (.str z) j pk) :: keys) (v :: values) ((z, dv) :: ds) := by
  obtain ⟨trs, h1, h2⟩ := hr
  refine ⟨(tC (.str z), lE X.K B H0 dv) :: trs, pps_cons pe_str hv h1, fun σ H Q ⟨G, S, post, hs, hd, hq⟩ => ?_⟩
  refine ⟨G, S, _, hs, hd, fun y dy G1 H1 s1 r1 p1 => ?_⟩
  split at p1
  · next q =>
    refine h2 _ _ _ ⟨G1, S, _, hs.step s1, p1, fun vs kvs G2 H2 s2 r2 p3 => ?_⟩
    exact hq ((.inr z, y) :: vs) ((.inr z, q) :: kvs) G2 H2 (s1.trans s2) (.cons ⟨rfl, Dt.up s2.up r1⟩ r2) p3
  · exact p1.elim
def dDisp (i : Nat) (ds : List (Str × DE)) : DS := fun E S => i < S.length ∧ dPrs ds S fun kvs => kvs.length ≤ 15 ∧ E.nx (S.set i (some (.od (mergeD [] kvs))))
theorem psd_disp {i : Nat} (hN : X.N.Nodup) (hi : X.N[i]? = some x) (hx : Loc X.env.scope x) (h : PDPs X B H0 p2 keys values ds) (hall : keys.all (·.isSome) = true) (hl : keys.length = values.length) (h0 : keys ≠ []) (h15 : keys.length ≤ 15)
    (hs : swapsWith (.Dict keys values p2) (some (.Name x pos')) pos.line X.env = pure false := by rfl) (hf : X.fn x = true ∨ X.env.scope.names.lookup x = some .local := by first | exact .inl rfl | exact .inr rfl | assumption) :
    PDS X B H0 (.Assign [.Name x pos'] (.Dict keys values p2) pos) (dDisp i ds) := by
  obtain ⟨trs, h1, h2⟩ := h
  refine PSmono (ps_set hN hi hx (pe_disp h1 hall hl h0 h15) hs hf) fun D σ H ⟨G0, E, ⟨G, S, hs, ho, hlt, hd⟩, q1, q2, q3, q4⟩ => ?_
  intro p hp
  have st0 := Stp.lay hs.wd hp (.dK [])
  refine h2 _ _ _ ⟨G, S, _, hs.step st0, hd, fun vs kvs G1 H1 s1 r1 p1 => ?_⟩
  obtain ⟨y1, y2⟩ := hs.newOwn ho i hp (u := .dK []) (d := .od []) ⟨p, [], rfl, ⟨hs.wd.sub.free hp, bag_ne hs.wd hp⟩, upd_same, .nil⟩
  have k := s1.keep p _ upd_same (hs.wd.sub.free hp) (bag_ne hs.wd hp)
  have hlen := kv_len r1
  refine ⟨k.1, vs, rfl, by rw [hlen]; exact p1.1, ?_⟩
  have hσ : (σ.set i (some (V.ref p)))[i]? = some (some (.ref p)) := List.getElem?_set_self (by rw [hs.len]; exact hlt)
  have hS : (S.set i (some (DL.D.od [])))[i]? = some (some (.od [])) := List.getElem?_set_self hlt
  obtain ⟨z1, z2⟩ := (y1.step s1).write (y2.trans s1.toOld) i hS trivial hσ k.2 (bag_ne hs.wd hp) (ho.dom hs.wd hp) (u := .dK (mergeK [] vs)) (d' := .od (mergeD [] kvs)) ⟨p, _, rfl, ⟨k.2, bag_ne hs.wd hp⟩, upd_same, kv_merge r1 .nil⟩ trivial
  rw [List.set_set] at z1
  exact q1 _ _ ⟨G1, _, z1, z2, p1.2⟩
/-! ### d.update(e), e a dict -/
theorem d_upd {pins : List (Addr × Obj)} {σ : L2.St} {H : Hp} {s : Shared} {a b : Addr} {kvs more : List (Key × V)} {A : Around} {E : Value → Shared → Prop} {Q : Value → Shared → Prop} (I : Inv X pins σ H s) (ea : H a = some (.dK kvs)) (eb : H b = some (.dK more)) (hne : a ≠ b) (hz : kvs.length + more.length ≤ sizeLine)
    (h : ∀ s', Inv X pins σ (upd H a (.dK (mergeK kvs more))) s' → Q .none s') : wpAny (model X.prog X.w) A (call (.builtin "dict.update") [.ref a, .ref b]) Q E s := by
  obtain ⟨z, hd, vs, rel, dd⟩ := dk_of I.hok ea
  obtain ⟨z2, hd2, vs2, rel2, dd2⟩ := dk_of I.hok eb
  refine call_meetsIn PySem.F.slot_dict_update dd.typeIs PySem.F.entry_dict_update (PySem.F.args_dict_update_2 _ _) (meets_dict_update (mixKind X.prog X.w) a b hne hd2) ⟨vs, vs2, dd, dd2, by rw [← rel.length, ← rel2.length]; exact hz, fun h' dd' _ hs => h _ ?_⟩
  have he : ∃ q, h'.get? a = some q := let ⟨q, _, _, hq, _⟩ := dd'; ⟨q, hq⟩
  exact d_write (t' := s.toks) I (by rw [ea]; exact True.intro) hs he (dk_new (Nat.le_trans (length_mergeK more kvs) hz) hd (rel2.merge rel) dd')
def tDUpd (td ty : TE) : TE := fun σ H Q => td σ H fun x H1 => ∃ a, x = .ref a ∧ IsD H1 a ∧ ty σ H1 fun y H2 => ∃ b kvs more, y = .ref b ∧ a ≠ b ∧ H2 a = some (.dK kvs) ∧ H2 b = some (.dK more) ∧ kvs.length + more.length ≤ sizeLine ∧ Q .non (upd H2 a (.dK (mergeK kvs more)))
theorem pe_dupd {td ty : TE} (ho : PE X o td) (he : PE X e ty) (m : M1 X o "update" apos e cpos) : PE X (.Call (.Attribute o "update" apos) [e] [] cpos) (tDUpd td ty) := by
  refine ⟨fun pins s σ H Q I h => ?_⟩
  refine wpAny_Call_method m.base m.few m.line PySem.F.plainAttrs_dict PySem.F.slot_dict_update PySem.F.type_dict_update (thn (ho.run pins s σ H _ I h) fun u s1 ⟨x, H1, I1, rx, a, ex, d, q1⟩ => ?_)
  subst ex
  obtain rfl : u = Value.ref a := rx
  obtain ⟨t1, t2, _⟩ := isD_at I1 d
  refine ⟨t1, t2, ?_⟩
  rw [m.trees]
  refine Calls.callWith_builtin rfl (Calls.evalArgs_plain (Calls.spliced_cons (thn (he.run pins s1 σ H1 _ I1 q1) fun iv s2 ⟨y, H2, I2, ry, b, kvs, more, ey, hne, ea, eb, hz, q2⟩ => Calls.spliced_nil ?_)))
  subst ey
  obtain rfl : iv = Value.ref b := ry
  exact d_upd I2 ea eb hne hz fun s3 I3 => ⟨.non, _, I3, rfl, q2⟩
def dUpd (i : Nat) (ds : List (Str × DE)) : DS := fun E S => match S[i]? with
  | some (some (.od kvs)) => dPrs ds S fun more => more.length ≤ 15 ∧ kvs.length ≤ 1000 ∧ E.nx (S.set i (some (.od (mergeD kvs (mergeD [] more)))))
  | _ => False
theorem psd_upd {i : Nat} (hN : X.N[i]? = some x) (hv : Vis X.env.scope x) (hd1 : (x == ("__debug__" : Str)) = false) (hcd : (x == ("__classdict__" : Str)) = false) (h : PDPs X B H0 p2 keys values ds) (hall : keys.all (·.isSome) = true) (hl : keys.length = values.length) (h0 : keys ≠ []) (h15 : keys.length ≤ 15)
    (m : M1 X (.Name x p1) "update" apos (.Dict keys values p2) cpos) (hs : swapsWith (.Call (.Attribute (.Name x p1) "update" apos) [.Dict keys values p2] [] cpos) none pos.line X.env = pure false) :
    PDS X B H0 (.Expr (.Call (.Attribute (.Name x p1) "update" apos) [.Dict keys values p2] [] cpos) pos) (dUpd i ds) := by
  obtain ⟨trs, h1, h2⟩ := h
  refine PSmono (ps_expr (pe_dupd (pe_var hN hv hd1 hcd) (pe_disp h1 hall hl h0 h15) m) hs) fun D σ H ⟨G0, E, ⟨G, S, hs, ho, hd⟩, q1, q2, q3, q4⟩ => ?_
  unfold dUpd at hd
  split at hd
  · next kvs es =>
    obtain ⟨v0, hσ, ⟨a, vs, rfl, w1, w2, w3⟩, hown⟩ := hs.slot i _ es
    refine ⟨_, hσ, a, rfl, .inl ⟨vs, .inl w2⟩, ?_⟩
    intro p hp
    have st0 := Stp.lay hs.wd hp (.dK [])
    refine h2 _ _ _ ⟨G, S, _, hs.step st0, hd, fun ms kms G1 H1 s1 r1 p1 => ?_⟩
    have k := s1.keep p _ upd_same (hs.wd.sub.free hp) (bag_ne hs.wd hp)
    have hlen := kv_len r1
    have nap : a ≠ p := ne_of_none w2 hp
    have ka := (st0.trans s1).keep a _ w2 w1.1 w1.2
    have hl2 : (mergeK [] ms).length ≤ 15 := by
      have y := length_mergeK ms []
      rw [List.length_nil, Nat.zero_add, hlen] at y
      exact Nat.le_trans y p1.1
    refine ⟨k.1, ms, rfl, by rw [hlen]; exact p1.1, p, vs, mergeK [] ms, rfl, nap, by rw [upd_ne nap]; exact ka.1, upd_same, ?_, ?_⟩
    · rw [kv_len w3]; have := p1.2.1; rw [sizeLine_eq]; omega
    · have st := st0.trans s1
      -- the display's dict: any object, not tracked by a slot
      have pG : G1 p = none := k.2
      have w2' : Wd X.K B G1 (upd H1 p (.dK (mergeK [] ms))) := by
        refine ⟨fun c z hc => by rw [upd_ne (ne_of_none hc pG)]; exact s1.wd.sub _ _ hc, fun b hb => ?_⟩
        have ne : b ≠ p := fun z => bag_ne hs.wd hp (z ▸ hb)
        obtain ⟨y1, y2⟩ := s1.wd.bags b hb
        exact ⟨y1, y2.up (fun _ _ h => h) (upd_ne ne)⟩
      have o2 : Old B G H G1 (upd H1 p (.dK (mergeK [] ms))) := ⟨st.up, fun c z hc hg hb => by
        rw [upd_ne (ne_of_none hc hp)]; exact st.keep c z hc hg hb⟩
      have st2 : Stp X.K B G H G1 (upd H1 p (.dK (mergeK [] ms))) := ⟨o2, w2'⟩
      have ka2 := st2.keep a _ w2 w1.1 w1.2
      obtain ⟨z1, z2⟩ := (hs.step st2).write (ho.trans st2.toOld) i es trivial hσ ka2.2 w1.2 (hown trivial a rfl) (u := .dK (mergeK vs (mergeK [] ms))) (d' := .od (mergeD kvs (mergeD [] kms))) ⟨a, _, rfl, ⟨ka2.2, w1.2⟩, upd_same, kv_merge (kv_merge r1 .nil) (KvR.up st2.up w3)⟩ trivial
      exact q1 _ _ ⟨G1, _, z1, z2, p1.2.2⟩
  · exact hd.elim
end
/-! ### a dict of one's own is locked for good behind a statement -/
def dLkA (i : Nat) (d : DS) : DS := fun E S => d { E with nx := fun S' => match S'[i]? with
  | some (some (.od kvs)) => E.nx (S'.set i (some (.lk kvs)))
  | _ => False } S
theorem ps_lockA {X : Cx} {st : Stmt} {t : TS} (h : PS X st t) : PS X st (fun D σ H => t { D with nx := fun σ' H' => ∃ d u, H' d = some u ∧ Mut (some u) ∧ ∀ od, D.nx σ' (upd H' d (.frz od u)) } σ H) := by
  refine ⟨fun pins s σ H D I hw => ?_⟩
  refine thn (h.run pins s σ _ _ I hw) fun f s1 q => ?_
  cases f with
  | next =>
    obtain ⟨σ', H', I2, d, u, hd, mu, q⟩ := q
    obtain ⟨od, I3⟩ := I2.lock hd mu
    exact ⟨σ', _, I3, q od⟩
  | brk => exact q
  | cont => exact q
  | ret v => exact q
theorem Sl.lkO {K : Kf} {B : List Addr} {H0 G0 G H : Hp} {S : Slots} {σ : L2.St} {i : Nat} {kvs : List (Key × PyData)} (hs : Sl K B H0 S σ G H) (ho : Old B G0 H0 G H) (e : S[i]? = some (some (.od kvs))) :
    ∃ p vs, H p = some (.dK vs) ∧ ∀ od, ∃ G', Sl K B H0 (S.set i (some (.lk kvs))) σ G' (upd H p (.frz od (.dK vs))) ∧ Old B G0 H0 G' (upd H p (.frz od (.dK vs))) := by
  obtain ⟨v, h1, ⟨p, vs, rfl, w1, w2, w3⟩, h3⟩ := hs.slot i _ e
  refine ⟨p, vs, w2, fun od => ⟨upd G p (.frz od (.dK vs)), ?_, ?_⟩⟩
  · have up : Same G (upd G p (.frz od (.dK vs))) := Same.updN w1.1
    have wd : Wd K B (upd G p (.frz od (.dK vs))) (upd H p (.frz od (.dK vs))) := ⟨Same.updB hs.wd.sub, fun b hb => by
      have ne : b ≠ p := fun z => w1.2 (z ▸ hb)
      obtain ⟨y1, y2⟩ := hs.wd.bags b hb
      exact ⟨by rw [upd_ne ne]; exact y1, y2.up up (upd_ne ne)⟩⟩
    refine ⟨wd, by rw [List.length_set]; exact hs.len, fun j dj hj => ?_, fun j k dj dk q hjk hj hk oj ok e1 e2 => ?_⟩
    · rcases set_get hj with ⟨rfl, e1, _⟩ | ⟨ne, h2⟩
      · cases e1
        exact ⟨.ref p, h1, ⟨p, od, vs, rfl, upd_same, KvR.up up w3⟩, fun z => z.elim⟩
      · obtain ⟨u, k1, k2, k3⟩ := hs.slot j dj h2
        refine ⟨u, k1, ?_, k3⟩
        have apart : dj.own → ∀ p', u = .ref p' → p' ≠ p := fun o p' z y => by
          subst z; subst y
          exact hs.sep i j _ dj p' ne e h2 trivial o h1 k1
        cases dj with
        | py q => exact Dt.up up k2
        | raw q => exact k2
        | ol l =>
          obtain ⟨p', vs', rfl, y1, y2, y3⟩ := k2
          exact ⟨p', vs', rfl, ⟨by rw [upd_ne (apart trivial p' rfl)]; exact y1.1, y1.2⟩, by rw [upd_ne (apart trivial p' rfl)]; exact y2, DtAll.up up y3⟩
        | od l =>
          obtain ⟨p', vs', rfl, y1, y2, y3⟩ := k2
          exact ⟨p', vs', rfl, ⟨by rw [upd_ne (apart trivial p' rfl)]; exact y1.1, y1.2⟩, by rw [upd_ne (apart trivial p' rfl)]; exact y2, KvR.up up y3⟩
        | dic l =>
          obtain ⟨p', vs', y1, y2, y3⟩ := k2
          exact ⟨p', vs', y1, up _ _ y2, KvR.up up y3⟩
        | ins a c l =>
          obtain ⟨dx, vs', y1, y2, y3⟩ := k2
          exact ⟨dx, vs', y1, up _ _ y2, KvR.up up y3⟩
        | fn L =>
          obtain ⟨f, c, pm, ct, y1, y2, y3⟩ := k2
          exact ⟨f, c, pm, ct, y1, up _ _ y2, up _ _ y3⟩
        | lk l =>
          obtain ⟨p', od', vs', y1, y2, y3⟩ := k2
          exact ⟨p', od', vs', y1, up _ _ y2, KvR.up up y3⟩
        | ex a dd l =>
          obtain ⟨y1, vs', y2, y3⟩ := k2
          exact ⟨y1, vs', up _ _ y2, KvR.up up y3⟩
    · rcases set_get hj with ⟨rfl, z, _⟩ | ⟨nj, hj⟩
      · cases z; exact oj.elim
      · rcases set_get hk with ⟨rfl, z, _⟩ | ⟨nk, hk⟩
        · cases z; exact ok.elim
        · exact hs.sep j k dj dk q hjk hj hk oj ok e1 e2
  · refine ⟨ho.up.trans (Same.updN w1.1), fun a o ha hg hb => ?_⟩
    have ne : a ≠ p := fun z => by subst z; rw [h3 trivial a rfl] at ha; cases ha
    rw [upd_ne ne, upd_ne ne]
    exact ho.keep a o ha hg hb
theorem psd_lkA {X : Cx} {B : List Addr} {H0 : Hp} {st : Stmt} {d : DS} (i : Nat) (h : PDS X B H0 st d) : PDS X B H0 st (dLkA i d) := PSmono (ps_lockA h) fun D σ H ⟨G0, E, hn, q1, q2, q3, q4⟩ => by
  refine ⟨G0, _, hn, fun σ' H' ⟨G, S, hs, ho, hd⟩ => ?_, q2, q3, q4⟩
  have hd : (match S[i]? with | some (some (.od kvs)) => E.nx (S.set i (some (.lk kvs))) | _ => False) := hd
  split at hd
  · next kvs e =>
    obtain ⟨p, vs, e1, e2⟩ := hs.lkO ho e
    refine ⟨p, _, e1, trivial, fun od => ?_⟩
    obtain ⟨G', y1, y2⟩ := e2 od
    exact q1 _ _ ⟨G', _, y1, y2, hd⟩
  · exact hd.elim
/-! ### for k in d, d locked -/
def diK (e : DE) : DI := fun S post => e S fun x => match x with
  | .lk kvs => post (kvs.map fun q => keyP q.1)
  | _ => False
theorem itd_keys {K : Kf} {B : List Addr} {a : Addr} {od : Obj} {vs : List (Key × V)} {kvs : List (Key × PyData)} {G1 : Hp} (h : G1 a = some (.frz od (.dK vs))) (hd : KvR K G1 vs kvs) : ItD K B (Itk a od vs) (kvs.map fun q => keyP q.1) G1 := fun G H w e i =>
  have q : H a = some (.frz od (.dK vs)) := w.sub _ _ (e _ _ h)
  have hl := kv_len hd
  ⟨fun hn => ⟨q, by have := List.getElem?_eq_none_iff.mp hn; rw [List.length_map] at this; omega⟩, fun d hi => by
    obtain ⟨hl2, he⟩ := List.getElem?_eq_some_iff.mp hi
    rw [List.length_map] at hl2
    refine ⟨⟨q, by omega⟩, fun x H' ⟨e1, k, v, e2, e3⟩ => ?_⟩
    subst e1 e3
    have hat := KvR.at (k := i) hd
    rw [e2, List.getElem?_eq_getElem hl2] at hat
    have ek : k = (kvs[i]).1 := by simpa using hat
    rw [List.getElem_map] at he
    subst he
    rw [← ek]
    exact ⟨G, Stp.refl w, keyP_dt k⟩⟩
theorem pdi_keys {X : Cx} {B : List Addr} {H0 : Hp} {tg e : Expr} {de : DE} (h : PD X B H0 e de) : PDI X B H0 tg e (diK de) := PImono (pi_keys h) fun σ H R ⟨G, S, post, hs, hd, hq⟩ => ⟨G, S, _, hs, hd, fun v d G' H' s r p => by
  split at p
  · obtain ⟨p', od, vs, rfl, h1, h2⟩ := r
    exact ⟨p', od, rfl, .inl ⟨vs, s.wd.sub _ _ h1, hq _ _ G' H' s (itd_keys h1 h2) p⟩⟩
  · exact p.elim⟩
end DL
/- ==== DMq ==== -/
/-! DMq: a law with three statements ahead of its loop over the bags. -/
namespace DL
open PySem PySem.Spec PyProof.Rows L2 RZ
section
variable {P : Program} {w : World} {K : Kf} {mg : Str → Option Value} {base : Heap}
theorem bags_wd2 {G H H1 : Hp} {T : Addr} {bs : List Addr} (wd : Wd K [T] G H) (e : Same H H1) (h : ∀ b ∈ bs, H b = none ∧ RawBag H1 b) : Wd K (T :: bs) (fun a => if a ∈ T :: bs then none else H1 a) H1 ∧ Same G (fun a => if a ∈ T :: bs then none else H1 a) := by
  obtain ⟨gT, ps, hT, ht, ha⟩ := wd.tab
  have up : Same G (fun a => if a ∈ T :: bs then none else H1 a) := fun a o ho => by
    have h1 : H a = some o := wd.sub _ _ ho
    show (if a ∈ T :: bs then none else H1 a) = some o
    rw [if_neg (fun z => by
      rcases List.mem_cons.mp z with rfl | z
      · rw [gT] at ho; cases ho
      · rw [(h a z).1] at h1; cases h1)]
    exact e _ _ h1
  refine ⟨⟨fun a o q => ?_, fun b hb => ⟨if_pos hb, ?_⟩⟩, up⟩
  · have q : (if a ∈ T :: bs then none else H1 a) = some o := q
    split at q
    · cases q
    · exact q
  · have hT1 : H1 T = some (.tbl ps) := e _ _ hT
    rcases List.mem_cons.mp hb with rfl | hb
    · exact .inr ⟨rfl, ps, hT1, ht, fun pos cv hc => let ⟨c, e1, e2⟩ := ha pos cv hc; ⟨c, e1, up _ _ e2⟩⟩
    obtain ⟨hn, dl, ns, k1, k2, k3, k4⟩ := h b hb
    have nb : (T :: bs).head? ≠ some b := fun z => by
      have z := Option.some.inj z
      subst z
      rw [hn] at hT; cases hT
    refine .inl ⟨nb, dl, 0, ns, k1, Int.le_refl _, ?_, k3, k4⟩
    have nd : dl ∉ T :: bs := fun z => by
      rcases List.mem_cons.mp z with rfl | z
      · rw [k2] at hT1; cases hT1
      obtain ⟨_, dl', ns', k1', _⟩ := h dl z
      rw [k2] at k1'
      have e : ns.map V.int = [V.ref dl', V.int 0] := by injection k1' with e; injection e
      have := congrArg List.length e
      rw [List.length_map, k3] at this
      cases this
    show (if dl ∈ T :: bs then none else H1 dl) = _
    rw [if_neg nd]; exact k2
def stayLk (bl : Slots) : Prop := ∀ (i : Nat) (d : D), bl[i]? = some (some d) → ∃ kvs, d = .lk kvs
def KeepS (bl S : Slots) : Prop := S.length = bl.length ∧ ∀ (i : Nat) (d : D), bl[i]? = some (some d) → S[i]? = some (some d)
theorem sl_stay {B B' : List Addr} {H0 H0' G H G' H' : Hp} {S bl : Slots} {σ : L2.St} (hs : Sl K B H0 S σ G H) (hk : KeepS bl S) (hb : stayLk bl) (w' : Wd K B' G' H') (up : Same G G') : Sl K B' H0' bl σ G' H' := by
  refine ⟨w', hs.len.trans hk.1, fun i d h => ?_, fun i j di dj p _ h1 _ o1 => ?_⟩
  · obtain ⟨v, h1, h2, _⟩ := hs.slot i d (hk.2 i d h)
    obtain ⟨kvs, rfl⟩ := hb i d h
    obtain ⟨p, od, vs, rfl, y1, y2⟩ := h2
    exact ⟨_, h1, ⟨p, od, vs, rfl, up _ _ y1, KvR.up up y2⟩, fun z => z.elim⟩
  · obtain ⟨kvs, rfl⟩ := hb i di h1
    exact o1.elim
theorem seq_cut {H : Hp} {T a : Addr} {ps : Array Value} {xs : List V} (hT : H T = some (.tbl ps)) (h : SqL K H a xs) : SqL K (fun x => if x ∈ [T] then none else H x) a xs := by
  have key : ∀ o, H a = some o → (∀ ps, o ≠ .tbl ps) → (if a ∈ [T] then none else H a) = some o := fun o ho hne => by
    rw [if_neg (fun z => by
      have := List.mem_singleton.mp z
      subst this
      rw [hT] at ho
      exact hne _ (Option.some.inj ho).symm)]
    exact ho
  rcases h with (h | ⟨o, h⟩) | h
  · exact .inl (.inl (key _ h (fun _ z => nomatch z)))
  · exact .inl (.inr ⟨o, key _ h (fun _ z => nomatch z)⟩)
  · exact .inr h
theorem law_ok3 {sL st1 st2 st3 : Stmt} {N : List Str} {i k : Nat} {lim : Int} {j : Nat} {bd rest : List Stmt} {p1 p2 p3 p4 p5 p6 : Pos} {t1 t2 t3 : DS} {tb tr : List Addr → DS} {c T : Addr} {f : Addr} {fd : FuncData} {bl : Slots} (F : FunD K "law" "law" (defArgs sL) (defBody sL) (defScope sL) [] [] f fd) (S : FnScope N ["script"] (defScope sL)) (hcode : ∀ oc od fd' osl, K.lookup f = some ⟨oc, od, .func fd', osl⟩ → fd'.code = .ref c)
    (hbody : defBody sL = st1 :: st2 :: st3 :: .For (.Name "bag" p1) (.Call (.Name "_law_bags" p2) [.Name "script" p3, .Constant (.int lim) j p4] [] p5) bd [] p6 :: rest) (hbl : bl.length = N.length) (hlk : stayLk bl)
    (hlim : 0 ≤ lim ∧ lim ≤ 1000) (hk : 3 ≤ k) (cb : CalR P w K mg base "_law_bags" ["script", "limit"] 3 (spBags K)) (h0 : N[0]? = some ("script" : Str)) (hi : N[i]? = some ("bag" : Str))
    (vs : (defScope sL).names.lookup ("script" : Str) = some NameKind.local ∨ (defScope sL).names.lookup ("script" : Str) = some NameKind.cell) (vb : (defScope sL).names.lookup ("bag" : Str) = some NameKind.local ∨ (defScope sL).names.lookup ("bag" : Str) = some NameKind.cell) (vg : (defScope sL).names.lookup ("_law_bags" : Str) = some NameKind.globalImplicit)
    (h1 : ∀ (f : Addr) (A : Around) (outer : List Env) (s : Shared) (H : Hp) (E : XK) (H0 : Hp), Room k (A.deeper (envOfC "law" (defScope sL) s.heap.objs.size f (.ref c))) → PDS (cxOf CX0 P w K mg base N "law" (defScope sL) f (.ref c) A outer s H E).nox [T] H0 st1 t1)
    (h2 : ∀ (f : Addr) (A : Around) (outer : List Env) (s : Shared) (H : Hp) (E : XK) (H0 : Hp), Room k (A.deeper (envOfC "law" (defScope sL) s.heap.objs.size f (.ref c))) → PDS (cxOf CX0 P w K mg base N "law" (defScope sL) f (.ref c) A outer s H E).nox [T] H0 st2 t2)
    (h3 : ∀ (f : Addr) (A : Around) (outer : List Env) (s : Shared) (H : Hp) (E : XK) (H0 : Hp), Room k (A.deeper (envOfC "law" (defScope sL) s.heap.objs.size f (.ref c))) → PDS (cxOf CX0 P w K mg base N "law" (defScope sL) f (.ref c) A outer s H E).nox [T] H0 st3 t3)
    (hb : ∀ (f : Addr) (A : Around) (outer : List Env) (s : Shared) (H : Hp) (E : XK) (bs : List Addr) (H0 : Hp), Room k (A.deeper (envOfC "law" (defScope sL) s.heap.objs.size f (.ref c))) → PDSs (cxOf CX0 P w K mg base N "law" (defScope sL) f (.ref c) A outer s H E).nox (T :: bs) H0 bd (tb bs))
    (hr : ∀ (f : Addr) (A : Around) (outer : List Env) (s : Shared) (H : Hp) (E : XK) (bs : List Addr) (H0 : Hp), Room k (A.deeper (envOfC "law" (defScope sL) s.heap.objs.size f (.ref c))) → PDSs (cxOf CX0 P w K mg base N "law" (defScope sL) f (.ref c) A outer s H E).nox (T :: bs) H0 rest (tr bs))
    (rp : ∀ a : Addr, t1 { nx := t2 { nx := t3 { nx := fun S => S[0]? = some (some (.raw (.ref a))) ∧ KeepS bl S, rt := fun _ => False }, rt := fun _ => False }, rt := fun _ => False } ((nones N.length).set 0 (some (.raw (.ref a)))))
    (rb : ∀ (bs : List Addr) (b : Addr), bagIn (T :: bs) b → tb bs { nx := KeepS bl, ct := KeepS bl, rt := fun d => d = .py (.bool true) } (bl.set i (some (.raw (.ref b)))))
    (rr : ∀ bs : List Addr, tr bs { nx := fun _ => False, rt := fun d => d = .py (.bool true) } bl) :
    FnOk P w K mg base CX0 (k + 1) f fd ["script"] (spLaw K T) := by
  obtain ⟨f1, fd1, hm1, F1, kp1, b1⟩ := cb
  obtain ⟨oc, od, dV, kV, doc, pm, an, cdv, ct, osl, rfl, lk, hcd, _, _⟩ := F.ex
  have ec : cdv = .ref c := hcode _ _ _ _ lk
  subst ec
  refine fn_of lk hcd S (fun vs H Q E h => ?_) (fun A outer s H vs Q E hroom h => ?_)
  · obtain ⟨a, ns, rfl, _⟩ := h; rfl
  · obtain ⟨a, ns, rfl, hS, hl, hT, hq⟩ := h
    have pb : PSs (cxOf CX0 P w K mg base N "law" (defScope sL) f (.ref c) A outer s H E).nox bd (fun D σ H' => ∃ z : List Addr × Hp, lS K (T :: z.1) z.2 (tb z.1) D σ H') := pss_ex fun z => hb f A outer s H E z.1 z.2 hroom
    have pr : PSs (cxOf CX0 P w K mg base N "law" (defScope sL) f (.ref c) A outer s H E).nox rest (fun D σ H' => ∃ z : List Addr × Hp, lS K (T :: z.1) z.2 (tr z.1) D σ H') := pss_ex fun z => hr f A outer s H E z.1 z.2 hroom
    have pf := ps_for (X := (cxOf CX0 P w K mg base N "law" (defScope sL) f (.ref c) A outer s H E).nox) (pos := p6) PassesOwn.never rfl
      (pi_list (pe_call (pos := p5) (p := p2) F1 (hroom.mono hk) vg hm1 kp1 b1 .nil pass0 (pa_cons (pe_var (i := 0) (pos := p3) h0 (vs.elim Or.inl fun z => Or.inr (Or.inl z))) (pa_cons (pe_int (i := lim) (j := j) (pos := p4)) pa_nil))))
      (pg_name (pos := p1) S.nd hi vb (Or.inl rfl)) pb
    rw [hbody]
    refine ⟨_, PSs.nox (pss_cons (h1 f A outer s H E H hroom) (pss_cons (h2 f A outer s H E H hroom) (pss_cons (h3 f A outer s H E H hroom) (pss_cons pf pr)))), ?_⟩
    have hN : 0 < N.length := (List.getElem?_eq_some_iff.mp h0).1
    have hsl : (L2.start N [V.ref a]).length = N.length := by unfold L2.start; rw [List.length_append, List.length_map, List.length_replicate]; show 1 + (N.length - 1) = _; omega
    have w0 : Wd K [T] (fun x => if x ∈ [T] then none else H x) H := bags_wd (bs := []) (fun b hb => absurd hb (by simp)) hT (by simp)
    have s0 : Sl K [T] H ((nones N.length).set 0 (some (.raw (.ref a)))) (L2.start N [V.ref a]) (fun x => if x ∈ [T] then none else H x) H := by
      have z := (sl_nones (H0 := H) (n := N.length) w0 hsl).set 0 (d := .raw (.ref a)) (v := .ref a) rfl free_raw
      have e : (L2.start N [V.ref a]).set 0 (some (V.ref a)) = L2.start N [V.ref a] := by unfold L2.start; rfl
      rw [e] at z; exact z
    have hS0 := seq_cut hT hS
    refine ⟨_, _, ⟨_, _, s0, Old.refl, rp a⟩, ?_, fun v H' ⟨_, _, _, _, _, _, z⟩ => z.elim, fun _ _ ⟨_, _, _, _, z⟩ => z.elim, fun _ _ ⟨_, _, _, _, z⟩ => z.elim⟩
    refine fun σ1 H1 z1 => ⟨_, _, z1, ?_, fun v H' ⟨_, _, _, _, _, _, z⟩ => z.elim, fun _ _ ⟨_, _, _, _, z⟩ => z.elim, fun _ _ ⟨_, _, _, _, z⟩ => z.elim⟩
    refine fun σ2 H2 z2 => ⟨_, _, z2, ?_, fun v H' ⟨_, _, _, _, _, _, z⟩ => z.elim, fun _ _ ⟨_, _, _, _, z⟩ => z.elim, fun _ _ ⟨_, _, _, _, z⟩ => z.elim⟩
    rintro σ3 H3 ⟨G3, S3, s3, o3, ha3, hk3⟩
    obtain ⟨v0, hst, e0, _⟩ := s3.slot 0 _ ha3
    have e0 : v0 = .ref a := e0
    subst e0
    have hS3 : SqL K H3 a (ns.map V.int) := (o3.up.trans s3.wd.sub).seq hS0
    refine ⟨_, hst, a, ns, lim, rfl, hS3, hl, hlim.1, hlim.2, fun p bs H1 e1 hp hbs _ => ?_⟩
    obtain ⟨w1, up1⟩ := bags_wd2 s3.wd e1 fun b hb => ⟨(hbs b hb).1, (hbs b hb).2.2⟩
    have hpb : p ∉ bs := fun z => (hbs p z).2.1 rfl
    obtain ⟨_, ps3, hT3, _⟩ := s3.wd.tab
    have hT1 : H1 T = some (.tbl ps3) := e1 _ _ hT3
    have hTn : T ∉ bs := fun z => by rw [(hbs T z).1] at hT3; cases hT3
    have hTp : p ≠ T := fun z => by subst z; rw [hT1] at hp; cases hp
    refine ⟨p, rfl, ⟨_, SqL.of hp⟩, fun n m σ H' => m = (bs.map V.ref).length - n ∧ n ≤ (bs.map V.ref).length ∧ ∃ G, Sl K (T :: bs) H' bl σ G H' ∧ G p = some (.lst (bs.map V.ref)), ⟨_, rfl, Nat.zero_le _, _, sl_stay s3 hk3 hlk w1 up1, (if_neg (fun z => (List.mem_cons.mp z).elim hTp hpb)).trans hp⟩, ?_⟩
    rintro n m σ H' ⟨rfl, hn, G, sl, gp⟩
    have hp' : SqL K H' p (bs.map V.ref) := SqL.of (sl.wd.sub _ _ gp)
    have self : KeepS bl bl := ⟨rfl, fun _ _ z => z⟩
    by_cases hlt : n < (bs.map V.ref).length
    · have hlt' : n < bs.length := by rw [List.length_map] at hlt; exact hlt
      have hx : (bs.map V.ref)[n]? = some (V.ref bs[n]) := by rw [List.getElem?_map, List.getElem?_eq_getElem hlt']; rfl
      refine .inr ⟨⟨_, _, hp', hx⟩, fun σ' H'' => ∃ G, Sl K (T :: bs) H'' bl σ' G H'' ∧ G p = some (.lst (bs.map V.ref)), fun σ' H'' z => ⟨_, by omega, rfl, hlt, z⟩, fun x H'' ⟨ex, ey⟩ => ?_⟩
      subst ex
      have := ey _ hp'; rw [hx] at this; cases this
      have sl2 := sl.set i (d := .raw (.ref bs[n])) (v := .ref bs[n]) rfl free_raw
      refine ⟨(bs, H''), G, { nx := KeepS bl, ct := KeepS bl, rt := fun d => d = .py (.bool true) }, ⟨G, _, sl2, Old.refl, rb bs bs[n] ⟨List.mem_cons_of_mem _ (List.getElem_mem hlt'), fun z => hTn (by have e := Option.some.inj z; rw [e]; exact List.getElem_mem hlt')⟩⟩, ?_, ?_, fun _ _ ⟨_, _, _, _, z⟩ => z.elim, ?_⟩
      · rintro σ' H3 ⟨G3, S3, k1, k2, k3⟩
        exact ⟨G3, sl_stay k1 k3 hlk k1.wd (fun _ _ z => z), k2.up _ _ gp⟩
      · rintro v H3 ⟨G3, d3, k1, k2, k3, _, rfl⟩
        cases k3; exact hq H3
      · rintro σ' H3 ⟨G3, S3, k1, k2, k3⟩
        exact ⟨G3, sl_stay k1 k3 hlk k1.wd (fun _ _ z => z), k2.up _ _ gp⟩
    · have e : n = (bs.map V.ref).length := by omega
      subst e
      refine .inl ⟨⟨_, hp', Nat.le_refl _⟩, (bs, H'), G, { nx := fun _ => False, rt := fun d => d = .py (.bool true) }, ⟨G, _, sl, Old.refl, rr bs⟩, fun _ _ ⟨_, _, _, _, z⟩ => z.elim, ?_, fun _ _ ⟨_, _, _, _, z⟩ => z.elim, fun _ _ ⟨_, _, _, _, z⟩ => z.elim⟩
      rintro v H3 ⟨G3, d3, k1, k2, k3, _, rfl⟩
      cases k3; exact hq H3
end
end DL
/- ==== DMr ==== -/
/-! DMr: what the head tells, with the interpreter's own statics. -/
namespace DL
open PySem PySem.Spec PyProof.Rows L2 He
def asY (g : Addr → Option Obj) (n : Nat) : List Addr := asD g n ++ [cStatics]
def obsY (n : Nat) (fa : List Fa) (fn : List DefD) (ts : List Tab) (tf : List Defn) (ex : PySem.W.Frag → Bool) (g : Addr → Option Obj) : AlX := (obsT fa fn ts (frT g (asY g n)), ex (frT g (asY g n)) && tabsB g tf (frT g (asY g n)))
theorem saysY_of {n : Nat} {fa : List Fa} {fn : List DefD} {ts : List Tab} {tf : List Defn} {ex : PySem.W.Frag → Bool} {w : World} {h : Heap} (e : obsY n fa fn ts tf ex h.get? = valX fn ts w) : SaysX fa fn ts tf ex w h (frT h.get? (asY h.get? n)) := by
  have e1 : obsT fa fn ts (frT h.get? (asY h.get? n)) = valT fn ts w := congrArg (fun z : AlX => z.1) e
  have e2 : (ex (frT h.get? (asY h.get? n)) && tabsB h.get? tf (frT h.get? (asY h.get? n))) = true := congrArg (fun z : AlX => z.2) e
  obtain ⟨h1, h2⟩ := ba e2
  have key : ∀ p ∈ tf, PySem.W.codeHdIn (frT h.get? (asY h.get? n)) (cT (frT h.get? (asY h.get? n)) p).1 (cT (frT h.get? (asY h.get? n)) p).2 = true ∧ ∃ o, h.get? (cT (frT h.get? (asY h.get? n)) p).2 = some o ∧ emptyTab o = true := fun p hp => by
    obtain ⟨h3, h4⟩ := ba (List.all_eq_true.mp h2 p hp)
    refine ⟨h3, ?_⟩
    cases q : h.get? (cT (frT h.get? (asY h.get? n)) p).2 with
    | none => rw [q] at h4; cases h4
    | some o => rw [q] at h4; exact ⟨o, rfl, h4⟩
  refine ⟨e1, h1, fun p hp => (key p hp).1, fun p hp => ?_, fun p hp => ?_⟩
  · obtain ⟨_, o, q, z⟩ := key p hp
    exact frT_none q z
  · obtain ⟨_, o, q, z⟩ := key p hp
    rw [q, emptyTab_eq z]
def hookY (n : Nat) (fa : List Fa) (fn : List DefD) (ts : List Tab) (tf : List Defn) (ex : PySem.W.Frag → Bool) : PySem.W.Hook where
  α := AlX
  obs := fun s => obsY n fa fn ts tf ex s.heap.get?
  val := fun w => valX fn ts w
  says := fun w h => ∃ K : PySem.W.Frag, K.In h ∧ SaysX fa fn ts tf ex w h K
  of := fun _ _ e => ⟨_, frT_in, saysY_of e⟩
  keeps := fun _ _ _ ⟨K, hK, c⟩ k => ⟨K, PySem.W.Frag.In.keeps hK k, ⟨c.t, c.more, c.hd, c.out, fun p hp => k _ _ (c.empty p hp)⟩⟩
theorem obsY_eq {n : Nat} {fa : List Fa} {fn : List DefD} {ts : List Tab} {tf : List Defn} {ex : PySem.W.Frag → Bool} {g : Addr → Option Obj} {s : Shared} (h : ∀ a, g a = s.heap.get? a) : obsY n fa fn ts tf ex g = (hookY n fa fn ts tf ex).obs s := by
  have e : g = s.heap.get? := funext h
  rw [e] <;> rfl
end DL
namespace DL
open PySem PySem.Spec PyProof.Rows L2 RZ
def top (i : Nat) : Stmt := PySem.Challenge.pw_stairlamps_k12_who_is_refused.main.body.getD i (.Pass ⟨0, 0, 0, 0⟩)
/-! data of the stairs -/
structure Walker where
  nm : Str
  bg : Int
  pc : Int
  up : Bool
def Walker.way (w : Walker) : Str := if w.up then "up" else "down"
def Walker.py (w : Walker) : PyData := .tuple [.str w.nm, .int w.bg, .int w.pc, .str w.way]
abbrev pInts (l : List Int) : List PyData := l.map PyData.int
def stairPy (day : Int) (lamps : List Int) : PyData := .tuple [.int day, .tuple (pInts lamps)]
def walkersPy (ws : List Walker) : PyData := .tuple (ws.map Walker.py)
/-- when a walker comes to a landing on the first day -/
def Walker.first (n : Nat) (landing : Int) (w : Walker) : Int := w.bg + (if w.up then landing else (n : Int) - 1 - landing) * w.pc
def firstPy (p : Str × Int) : PyData := .tuple [.str p.1, .int p.2]
def firstsOf (n : Nat) (landing : Int) (ws : List Walker) : List (Str × Int) := ws.map fun w => (w.nm, w.first n landing)
theorem snoc_int (ns : List Int) (x : Int) : pInts ns ++ [PyData.int x] = pInts (ns ++ [x]) := by unfold pInts; rw [List.map_append]; rfl
theorem if_false_t {A B : Prop} (h : B) : if false = true then A else B := by rw [if_neg Bool.false_ne_true]; exact h
theorem all_snoc {P : Int → Prop} {ns : List Int} {x : Int} (h : ∀ n ∈ ns, P n) (hx : P x) : ∀ n ∈ ns ++ [x], P n := fun n hn => by
  rcases List.mem_append.mp hn with z | z
  · exact h n z
  · rw [List.mem_singleton.mp z]; exact hx
local macro_rules | `(tactic| walk_at "dl") => `(tactic| simp only [atI_0, atI_1, atI_2, atI_3, stairPy, walkersPy, Walker.py, firstPy, if_true, if_false, List.length_cons, List.length_nil, Nat.reduceAdd, Nat.reduceLeDiff, Nat.zero_add, true_and, and_true, dSeq, dNext, dBrk, dCont, dIfS, dRet, dRetV, dRetVO, dRetO, dSetO, List.map_cons, List.map_nil, dSet, dSetL, dSetD, dApp, dDrop, dPar, dPar3, dParL, dPut, dWhile, dFor, dAsg, dVar, dC, dOp, dUn, dB, dAnd, dOr, dNot, dAndV, dOrV, dNotV, dIf, dNil, dCons, dChain, dTup, dLst, dCB, dCall, dSl, dNo, dPart, dLc, dYes, dDix, dDget_eq, dDin, diL, diT, diR1, diR2, diS, diZ, dgName, dgNil, dgCons, dgTup, fI, fIc, fAdd, fMul, fEq, fNe, fLt, fLe, fGt, fGe, fLtA, fSub, fFdiv, fMod, fIsN, fNotN, fIsB, fNotB, fIx, fSl, fIn, fInS, fDix, cLen, cInt, cMax2, cMin2, cSum, cMaxL, cMinL, cAll, cAny, cTuple, cList, cSorted, cSortD, dRg, dZero, cIsi, D.py?, D.items, D.lsti, D.ty, D.kvs, keyD, pys, fre, isNonD, wipeS, Option.map, List.set, List.getElem?_cons_succ, List.getElem?_cons_zero])
/-! ### the bags of draws: a take by hand, the rest over data -/
abbrev s__law_take : Stmt := top 52
theorem sc__law_take : FnScope ["bag", "many"] ["bag", "many"] (defScope s__law_take) := ⟨rfl, rfl, rfl, by decide +kernel, rfl, by decide +kernel, by decide +kernel⟩
abbrev s__law_cell_at : Stmt := top 48
theorem sc__law_cell_at : FnScope ["script", "k"] ["script", "k"] (defScope s__law_cell_at) := ⟨rfl, rfl, rfl, by decide +kernel, rfl, by decide +kernel, by decide +kernel⟩
abbrev s__law_draws : Stmt := top 49
theorem sc__law_draws : FnScope ["cell", "many", "size", "found", "rest", "stirred", "k"] ["cell", "many", "size"] (defScope s__law_draws) := ⟨rfl, rfl, rfl, by decide +kernel, rfl, by decide +kernel, by decide +kernel⟩
abbrev s__law_bag : Stmt := top 50
theorem sc__law_bag : FnScope ["script", "k"] ["script", "k"] (defScope s__law_bag) := ⟨rfl, rfl, rfl, by decide +kernel, rfl, by decide +kernel, by decide +kernel⟩
abbrev s__law_bags : Stmt := top 51
theorem sc__law_bags : FnScope ["script", "limit", "k"] ["script", "limit"] (defScope s__law_bags) := ⟨rfl, rfl, rfl, by decide +kernel, rfl, by decide +kernel, by decide +kernel⟩
section
variable {P : Program} {w : World} {K : Kf} {mg : Str → Option Value} {base : Heap}
theorem cal_law_take (d : Def K mg "_law_take" s__law_take) (T : Bl mg) : Cal P w K mg base "_law_take" ["bag", "many"] 1 C_take := by
  obtain ⟨f, fd, hm, F⟩ := d
  refine ⟨f, fd, hm, F.ok sc__law_take (fun vs H Q E h => ?_) (fun cdv A outer s H vs Q E hr h => ?_), F.kp, BindsL.of F (FunD.bindsN F fun _ _ _ _ _ _ us hl => match us, hl with | [_, _], _ => rfl)⟩
  · obtain ⟨B, G, ds, post, _, r, ⟨b, m, rfl, _⟩, _⟩ := h
    rw [← r.length]; rfl
  · obtain ⟨B, G, ds, post, wd, r, ⟨b, m, rfl, hb, hm0, hp⟩, hq⟩ := h
    obtain ⟨gb, dl, c, ns, hH, hc, hS, hl, hn⟩ := wd.draw hb
    cases r with
    | cons r1 r2 =>
    cases r2 with
    | cons r2 r3 =>
    cases r3
    cases (show _ = V.ref b from r1)
    cases r2
    refine ⟨_, PSs.nox (pss_cons (ps_asg (pe_op op_add (pe_ix ix_list (pv 0) pe_int (fun _ _ => rfl)) pe_int) (pg_sub (pv 0) pe_int set_list))
      (pss_one (ps_ret (pe_op op_mod (pe_ix ix_list (pe_ix ix_list (pv 0) pe_int (fun _ _ => rfl)) (pe_op op_mod (pe_ix ix_list (pv 0) pe_int (fun _ _ => rfl)) (pe_callB call_len (by rfl) T.len PySem.boot_len (pa_cons (pe_ix ix_list (pv 0) pe_int (fun _ _ => rfl)) pa_nil))) (fun _ _ => rfl)) (pv 1))))), ?_⟩
    have hdl : dl ≠ b := ne_of_none hS gb
    have hD : H dl = some (.lst (ns.map V.int)) := wd.sub _ _ hS
    refine ⟨_, rfl, b, _, 1, _, rfl, rfl, SqL.of hH, atI_1, c, 1, rfl, rfl, _, rfl, b, _, 1, 1, rfl, rfl, hH, rfl, ?_⟩
    -- behind the store
    have hb1 : upd H b (.lst [V.ref dl, V.int (c + 1)]) b = some (.lst [V.ref dl, V.int (c + 1)]) := upd_same
    have hd1 : upd H b (.lst [V.ref dl, V.int (c + 1)]) dl = some (.lst (ns.map V.int)) := by rw [upd_ne hdl]; exact hD
    obtain ⟨j, hj⟩ : ∃ j : Nat, (c + 1) % (((ns.map V.int).length : Nat) : Int) = (j : Int) := ⟨((c + 1) % (((ns.map V.int).length : Nat) : Int)).toNat, (Int.toNat_of_nonneg (Int.emod_nonneg _ (by rw [List.length_map, hl]; decide))).symm⟩
    have hj2 : j < ns.length := by
      have := Int.emod_lt_of_pos (c + 1) (b := (((ns.map V.int).length : Nat) : Int)) (by rw [List.length_map, hl]; decide)
      rw [List.length_map, hl] at this hj
      omega
    have hnj := hn ns[j] (List.getElem_mem hj2)
    refine ⟨_, rfl, b, _, 0, _, rfl, rfl, SqL.of hb1, atI_0, _, rfl, b, _, 1, _, rfl, rfl, SqL.of hb1, atI_1, _, rfl, b, _, 0, _, rfl, rfl, SqL.of hb1, atI_0, _, _, rfl, .inl ⟨_, SqL.of hd1, rfl⟩, _, _, rfl, rfl, (by show (0 : Int) < _; rw [List.length_map, hl]; decide), dl, _, _, _, rfl, rfl, SqL.of hd1, (by rw [hj]; exact atI_nat (v := V.int ns[j]) (by rw [List.getElem?_map, List.getElem?_eq_getElem hj2]; rfl)), _, rfl, _, _, rfl, rfl, hm0, ?_⟩
    have h0 := Int.emod_nonneg ns[j] (show m ≠ 0 by omega)
    have h1 := Int.emod_lt_of_pos ns[j] hm0
    have h2 : ns[j] % m ≤ ns[j] := by have := Int.emod_add_mul_ediv ns[j] m; have := Int.ediv_nonneg hnj.1 (show 0 ≤ m by omega); have := Int.mul_nonneg (show 0 ≤ m by omega) this; omega
    refine hq (.int (ns[j] % m)) (.py (.int (ns[j] % m))) G _ ⟨⟨fun _ _ h => h, fun a o h h' ha => ⟨?_, h'⟩⟩, ⟨fun a o h => ?_, fun b' hb' => ?_⟩⟩ (Rp.int _) (hp _ h0 h1 (by omega))
    · have ne : a ≠ b := fun e => by subst e; exact ha hb.1
      rw [upd_ne ne]; exact h
    · rw [upd_ne (ne_of_none h gb)]; exact wd.sub _ _ h
    · by_cases e : b' = b
      · subst e
        exact ⟨gb, .inl ⟨hb.2, dl, c + 1, ns, upd_same, by omega, hS, hl, hn⟩⟩
      · obtain ⟨k1, k2⟩ := wd.bags b' hb'
        exact ⟨k1, k2.up (fun _ _ h => h) (upd_ne e)⟩
end
def C_draws : Ct := fun _ ds post => ∃ cell : Int, ds = [.py (.int cell), .py (.int 400), .py (.int 1000)] ∧ ∀ ns : List Int, ns.length = 400 → (∀ n ∈ ns, 0 ≤ n ∧ n < 1000) → post (.py (.list (pInts ns)))
section
variable {P : Program} {w : World} {K : Kf} {mg : Str → Option Value} {base : Heap}
theorem cal_law_draws (d : Def K mg "_law_draws" s__law_draws) (T : Bl mg) : Cal P w K mg base "_law_draws" ["cell", "many", "size"] 1 C_draws := by
  refine calD d sc__law_draws (fun B ds post ⟨_, e, _⟩ => by subst e; exact ⟨rfl, fun d hd => by simp at hd; rcases hd with rfl | rfl | rfl <;> exact free_py⟩) (fun _ _ _ _ _ _ _ us hl => match us, hl with | [_, _, _], _ => rfl) (fun f cdv A outer s H E B ds post hr c => ⟨_, (psd_cons (psd_setL (i := 3) sc__law_draws.nd rfl (Or.inl rfl))
        (psd_cons (psd_set (i := 4) sc__law_draws.nd rfl (Or.inl rfl) (pd_mul (pd_var 0) (pd_int1 T (pd_cmp op_ge od_ge (pd_var 0) (pd_pow (n := 1000000000000000000)) (nomark _)))))
        (psd_cons (psd_set (i := 5) sc__law_draws.nd rfl (Or.inl rfl) (pd_mod (pd_var 0) pd_int))
        (psd_cons (psd_for PassesOwn.never rfl (pdi_range1 (by rfl) T.range (pd_add (pd_var 1) pd_int)) (pdg_name (i := 6) sc__law_draws.nd rfl (Or.inl rfl)) (psd_cons (psd_set (i := 5) sc__law_draws.nd rfl (Or.inl rfl) (pd_mod (pd_add (pd_add (pd_add (pd_mul (pd_var 5) (pd_var 5)) (pd_mul pd_int (pd_var 5))) (pd_var 6)) pd_int) pd_int))
        (psd_one (psd_if (PDW.t (pdw_and (pdt_cmp op_gt od_gt (pd_var 6) pd_int (nomark _)) (pdw_and1 (pdt_cmp op_gt od_gt (pd_var 4) pd_int (nomark _))))) (psd_cons (psd_app (i := 3) rfl (Or.inl rfl) (by decide) (by decide) (pd_mod (pd_var 4) (pd_var 2)) (fun ho ha => pe_bm PySem.F.plainAttrs_list PySem.F.slot_list_append PySem.F.type_list_append mt_append ho ha) (by rfl) (by rfl))
        (psd_one (psd_set (i := 4) sc__law_draws.nd rfl (Or.inl rfl) (pd_fdiv (pd_var 4) (pd_var 2))))) (psd_one (psd_if (pdt_cmp op_gt od_gt (pd_var 6) pd_int (nomark _)) (psd_one (psd_app (i := 3) rfl (Or.inl rfl) (by decide) (by decide) (pd_mod (pd_fdiv (pd_var 5) pd_int) (pd_var 2)) (fun ho ha => pe_bm PySem.F.plainAttrs_list PySem.F.slot_list_append PySem.F.type_list_append mt_append ho ha) (by rfl) (by rfl))) psd_nil))))))
        (psd_one (psd_retV 3)))))), ?_⟩)
  obtain ⟨cell, rfl, hp⟩ := c
  refine at_st (S' := [some (.py (.int cell)), some (.py (.int 400)), some (.py (.int 1000)), none, none, none, none]) rfl ?_
  walk_at "dl"
  refine ⟨cmul_r ?_, by decide, by decide, by decide, fun i S' => ∃ (ns : List Int) (rest st : Int) (kk : Option D), S' = [some (.py (.int cell)), some (.py (.int 400)), some (.py (.int 1000)), some (.ol (pInts ns)), some (.py (.int rest)), some (.py (.int st)), kk] ∧ ns.length = i - 3 ∧ (∀ n ∈ ns, 0 ≤ n ∧ n < 1000) ∧ 0 ≤ rest ∧ 0 ≤ st ∧ st < 2305843009213693951, ⟨[], _, _, _, rfl, rfl, fun n h => absurd h (by simp), ?_, Int.emod_nonneg _ (by decide), Int.emod_lt_of_pos _ (by decide)⟩, ?_, ?_⟩
  · split <;> exact ⟨by decide, by decide⟩
  · by_cases z : (1000000000000000000 : Int) ≤ cell
    · rw [if_pos (decide_eq_true z)]; omega
    · rw [if_neg (by simp [z])]; omega
  · rintro i d S' hi ⟨ns, rest, st, kk, rfl, hl, hn, hr0, hs0, hs1⟩
    obtain ⟨hi1, rfl⟩ := range_get hi
    have hi2 : i < 403 := hi1
    have hlen : (pInts ns).length < 16000000 := by rw [List.length_map, hl]; omega
    have s0 := Int.emod_nonneg (st * st + 48271 * st + ↑i + 1) (show (2305843009213693951 : Int) ≠ 0 by decide)
    have s1 := Int.emod_lt_of_pos (st * st + 48271 * st + ↑i + 1) (show (0 : Int) < 2305843009213693951 by decide)
    have r1000 : ∀ x : Int, 0 ≤ x % 1000 ∧ x % 1000 < 1000 := fun x => ⟨Int.emod_nonneg _ (by decide), Int.emod_lt_of_pos _ (by decide)⟩
    walk_at "dl"
    refine ⟨cmul_r ⟨by omega, by omega⟩, cmul_r ⟨by omega, by omega⟩, by decide, ?_⟩
    refine if_dec (fun h2 => ?_) (fun h2 => if_false_t ?_)
    · refine if_dec (fun h3 => ?_) (fun h3 => if_dec (fun _ => ?_) (fun h4 => absurd h2 h4))
      · rw [snoc_int]
        exact ⟨by decide, hlen, ⟨by decide, by decide⟩, _, _, _, _, rfl, by rw [List.length_append, hl, List.length_singleton]; omega, all_snoc hn (r1000 _), Int.ediv_nonneg hr0 (by decide), s0, s1⟩
      · rw [snoc_int]
        exact ⟨⟨by decide, by decide⟩, by decide, hlen, _, _, _, _, rfl, by rw [List.length_append, hl, List.length_singleton]; omega, all_snoc hn (r1000 _), hr0, s0, s1⟩
    · refine if_dec (fun h4 => absurd h4 h2) (fun _ => ?_)
      exact ⟨_, _, _, _, rfl, by rw [hl]; omega, hn, hr0, s0, s1⟩
  · rintro S' ⟨ns, rest, st, kk, rfl, hl, hn, _⟩
    walk_at "dl"
    exact hp ns (by rw [hl, List.length_map, List.length_range]; decide) hn
end
/-! by hand: the script is locked, the bags are made -/
section
variable {P : Program} {w : World} {K : Kf} {mg : Str → Option Value} {base : Heap}
theorem cal_law_cell_at (d : Def K mg "_law_cell_at" s__law_cell_at) (T : Bl mg) : CalR P w K mg base "_law_cell_at" ["script", "k"] 1 (spCell K) := by
  obtain ⟨f, fd, hm, F⟩ := d
  refine ⟨f, fd, hm, F.ok sc__law_cell_at (fun vs H Q E h => ?_) (fun cdv A outer s H vs Q E hr h => ?_), F.kp, FunD.bindsN F fun _ _ _ _ _ _ us hl => match us, hl with | [_, _], _ => rfl⟩
  · obtain ⟨a, ns, k, rfl, _⟩ := h; rfl
  · obtain ⟨a, ns, k, rfl, hS, hk, hq⟩ := h
    refine ⟨_, PSs.nox (pss_cons (ps_if (pt_cmpR op_lt (pv 1) (pe_callB call_len (by rfl) T.len PySem.boot_len (pa_cons (pv 0) pa_nil)) (nomark _)) (pss_one (ps_ret (pe_ix ix_list (pv 0) (pv 1) (fun _ _ => rfl)))) pss_nil) (pss_one (ps_ret pe_int))), ?_⟩
    refine ⟨_, rfl, _, rfl, _, _, rfl, .inl ⟨_, hS, rfl⟩, k, _, rfl, rfl, _, rfl, ?_⟩
    refine if_dec (fun h => ?_) (fun h => hq 0)
    rw [List.length_map] at h
    obtain ⟨j, rfl⟩ : ∃ j : Nat, k = (j : Int) := ⟨k.toNat, (Int.toNat_of_nonneg hk).symm⟩
    have hj : j < ns.length := by omega
    exact ⟨_, rfl, _, rfl, a, _, _, .int ns[j], rfl, rfl, hS, atI_nat (by rw [List.getElem?_map, List.getElem?_eq_getElem hj]; rfl), hq _⟩
theorem cal_law_bag (d : Def K mg "_law_bag" s__law_bag) (T : Bl mg) (cd : Cal P w K mg base "_law_draws" ["cell", "many", "size"] 1 C_draws) (cc : CalR P w K mg base "_law_cell_at" ["script", "k"] 1 (spCell K)) : CalR P w K mg base "_law_bag" ["script", "k"] 2 (spBag K) := by
  obtain ⟨f, fd, hm, F⟩ := d
  obtain ⟨f1, fd1, hm1, F1, kp1, b1⟩ := cd
  obtain ⟨f2, fd2, hm2, F2, kp2, b2⟩ := cc
  refine ⟨f, fd, hm, F.ok sc__law_bag (fun vs H Q E h => ?_) (fun cdv A outer s H vs Q E hr h => ?_), F.kp, FunD.bindsN F fun _ _ _ _ _ _ us hl => match us, hl with | [_, _], _ => rfl⟩
  · obtain ⟨a, ns, k, rfl, _⟩ := h; rfl
  · obtain ⟨a, ns, k, rfl, hS, hk, hq⟩ := h
    refine ⟨_, PSs.nox (pss_one (ps_ret (pe_lst (pa_cons (pe_call F1 hr rfl hm1 kp1 b1.1 .nil pass0 (pa_cons (pe_call F2 hr rfl hm2 kp2 b2 .nil pass0 (pa_cons (pv 0) (pa_cons (pv 1) pa_nil))) (pa_cons pe_int (pa_cons pe_int pa_nil)))) (pa_cons pe_int pa_nil))))), ?_⟩
    refine ⟨_, rfl, _, rfl, a, ns, k, rfl, hS, hk, fun z => ⟨[], H, _, fun d => ∃ ns : List Int, d = .py (.list (pInts ns)) ∧ ns.length = 400 ∧ ∀ n ∈ ns, 0 ≤ n ∧ n < 1000, ⟨fun _ _ h => h, fun b hb => absurd hb (by simp)⟩, .cons (Rp.int _) (.cons (Rp.int _) (.cons (Rp.int _) .nil)), ⟨z, rfl, fun ns h1 h2 => ⟨ns, rfl, h1, h2⟩⟩, ?_⟩⟩
    rintro v d G' H' st r ⟨ns, rfl, h1, h2⟩
    cases r with
    | lst k1 k2 =>
      have := k2.ints; subst this
      have hs : Same H H' := st.up.trans st.wd.sub
      refine ⟨(by show 2 ≤ sizeLine; decide), fun p hp => hq p _ (hs.trans (Same.updN hp)) (hs.free hp) ⟨_, ns, upd_same, ?_, h1, h2⟩⟩
      have := st.wd.sub _ _ k1
      rw [upd_ne (ne_of_none this hp)]; exact this
theorem cal_law_bags (d : Def K mg "_law_bags" s__law_bags) (T : Bl mg) (cb : CalR P w K mg base "_law_bag" ["script", "k"] 2 (spBag K)) : CalR P w K mg base "_law_bags" ["script", "limit"] 3 (spBags K) := by
  obtain ⟨f, fd, hm, F⟩ := d
  obtain ⟨f1, fd1, hm1, F1, kp1, b1⟩ := cb
  refine ⟨f, fd, hm, F.ok sc__law_bags (fun vs H Q E h => ?_) (fun cdv A outer s H vs Q E hr h => ?_), F.kp, FunD.bindsN F fun _ _ _ _ _ _ us hl => match us, hl with | [_, _], _ => rfl⟩
  · obtain ⟨a, ns, k, rfl, _⟩ := h; rfl
  · obtain ⟨a, ns, lim, rfl, hS, hl, h0, h1, hq⟩ := h
    refine ⟨_, PSs.nox (pss_one (ps_ret (pe_lc (own := [("k", 2)]) (g := gName 2) (tt := tYes) rfl sc__law_bags.nd (pi_range1 rfl T.range (pa_cons (pe_callB (call_max2 rfl) (by rfl) T.max bo_max (pa_cons pe_int (pa_cons (pe_callB (call_min2 rfl) (by rfl) T.min bo_min (pa_cons (pv 1) (pa_cons (pe_callB call_len (by rfl) T.len PySem.boot_len (pa_cons (pv 0) pa_nil)) pa_nil))) pa_nil))) pa_nil))
      (blkOk_by (N := ["script", "limit", "k"]) (sc := defScope s__law_bags) (by decide +kernel)) (fun _ _ _ _ _ => pg_name (i := 2) sc__law_bags.nd rfl (Or.inl rfl)) (fun _ _ _ _ _ => pts_nil) (fun _ _ _ _ _ => pe_call F1 hr rfl hm1 kp1 b1 .nil pass0 (pa_cons (pv 0) (pa_cons (pv 2) pa_nil)))))), ?_⟩
    refine ⟨_, rfl, _, rfl, _, _, rfl, .inl ⟨_, hS, rfl⟩, _, _, rfl, _, _, rfl, _, rfl, ?_, ?_, fun D hD => ?_⟩
    · rw [List.length_map]; split <;> (try split) <;> omega
    · rw [List.length_map]; split <;> (try split) <;> omega
    · refine lc_range (lo := 0) (n := _) (fun i H' => ∃ bs : List Addr, H' D = some (.lst (bs.map V.ref)) ∧ Same H H' ∧ bs.length ≤ i ∧ ∀ b ∈ bs, H b = none ∧ b ≠ D ∧ RawBag H' b) ⟨[], upd_same, Same.updN hD, Nat.le_refl _, fun b hb => absurd hb (by simp)⟩ ?_ ?_
      · rintro i H' hi ⟨bs, hD2, hs, hbl, hb⟩
        refine ⟨rfl, ?_⟩
        refine tYes_if ?_
        refine ⟨_, rfl, _, rfl, a, ns, _, rfl, hs.seq hS, by omega, fun p H'' s2 hp rb => ?_⟩
        have hne : p ≠ D := fun e => by subst e; rw [hp] at hD2; cases hD2
        refine ⟨_, s2 _ _ hD2, ?_, bs ++ [p], ?_, fun b o h => ?_, by rw [List.length_append]; simpa using hbl, fun b hbm => ?_⟩
        · rw [List.length_map]
          refine Nat.lt_of_le_of_lt hbl (Nat.lt_of_lt_of_le hi ?_)
          refine Nat.le_trans ?_ (show 1000 ≤ sizeLine by decide)
          rw [List.length_map]; split <;> (try split) <;> omega
        · rw [upd_same, List.map_append]; rfl
        · have ne : b ≠ D := fun e => by subst e; rw [h] at hD; cases hD
          rw [upd_ne ne]; exact s2 _ _ (hs _ _ h)
        · have key : ∀ b, b ≠ D → RawBag H'' b → RawBag (upd H'' D (.lst (bs.map V.ref ++ [.ref p]))) b := by
            rintro b ne ⟨dl, ms, k1, k2, k3, k4⟩
            have nd : dl ≠ D := fun e => by
              subst e
              have := s2 _ _ hD2; rw [k2] at this
              cases ms with
              | nil => cases k3
              | cons m ms => cases bs <;> cases this
            exact ⟨dl, ms, by rw [upd_ne ne]; exact k1, by rw [upd_ne nd]; exact k2, k3, k4⟩
          rcases List.mem_append.mp hbm with z | z
          · obtain ⟨y1, y2, y3⟩ := hb b z
            exact ⟨y1, y2, key b y2 (y3.up s2)⟩
          · have := List.mem_singleton.mp z; subst this
            exact ⟨hs.free hp, hne, key b hne rb⟩
      · rintro H' ⟨bs, hD2, hs, _, hb⟩
        exact hq D bs H' hs hD2 hb hD
end
def C_firsts : Ct := fun _ ds post => ∃ (day : Int) (lamps : List Int) (ws : List Walker) (landing : Int), ds = [.py (stairPy day lamps), .py (walkersPy ws), .py (.int landing)] ∧ ws.length ≤ 1000 ∧ (∀ w ∈ ws, 0 ≤ w.pc ∧ w.pc ≤ 1000000000) ∧
  post (.py (.list ((firstsOf lamps.length landing ws).map firstPy)))
abbrev s_firsts : Stmt := top 23
theorem sc_firsts : FnScope ["stair", "walkers", "landing", "found", "name", "begin", "pace", "way", "steps"] ["stair", "walkers", "landing"] (defScope s_firsts) := ⟨rfl, rfl, rfl, by decide +kernel, rfl, by decide +kernel, by decide +kernel⟩
section
variable {P : Program} {w : World} {K : Kf} {mg : Str → Option Value} {base : Heap}
theorem cal_firsts (d : Def K mg "firsts" s_firsts) (T : Bl mg) : Cal P w K mg base "firsts" ["stair", "walkers", "landing"] 1 C_firsts := by
  refine calD d sc_firsts (fun B ds post ⟨_, _, _, _, e, _⟩ => by subst e; exact ⟨rfl, fun d hd => by simp at hd; rcases hd with rfl | rfl | rfl <;> exact free_py⟩) (fun _ _ _ _ _ _ _ us hl => match us, hl with | [_, _, _], _ => rfl) (fun f cdv A outer s H E B ds post hr c => ⟨_, (psd_cons (psd_setL (i := 3) sc_firsts.nd rfl (Or.inl rfl))
        (psd_cons (psd_for PassesOwn.never rfl (pdi_tup (pd_var 1)) (pdg_tup rfl (pdgs_cons (pdg_name (i := 4) sc_firsts.nd rfl (Or.inl rfl)) (pdgs_cons (pdg_name (i := 5) sc_firsts.nd rfl (Or.inl rfl)) (pdgs_cons (pdg_name (i := 6) sc_firsts.nd rfl (Or.inl rfl)) (pdgs_cons (pdg_name (i := 7) sc_firsts.nd rfl (Or.inl rfl)) pdgs_nil)))) (lg_cons rch_name (lg_cons rch_name (lg_cons rch_name (lg_cons rch_name lg_nil))))) (psd_cons (psd_set (i := 8) sc_firsts.nd rfl (Or.inl rfl) (pd_ifExp (pdt_cmp (op_eqA hr.units) od_eq (pd_var 7) pd_str (nomark _)) (pd_var 2) (pd_sub (pd_sub (pd_len T (pd_ix (pd_var 0) pd_int)) pd_int) (pd_var 2))))
        (psd_one (psd_app (i := 3) rfl (Or.inl rfl) (by decide) (by decide) (pd_tup (pda_cons (pd_var 4) (pda_cons (pd_add (pd_var 5) (pd_mul (pd_var 8) (pd_var 6))) pda_nil))) (fun ho ha => pe_bm PySem.F.plainAttrs_list PySem.F.slot_list_append PySem.F.type_list_append mt_append ho ha) (by rfl) (by rfl)))))
        (psd_one (psd_retV 3)))), ?_⟩)
  obtain ⟨day, lamps, ws, landing, rfl, hl, hw, hp⟩ := c
  refine at_st (S' := [some (.py (stairPy day lamps)), some (.py (walkersPy ws)), some (.py (.int landing)), none, none, none, none, none, none]) rfl ?_
  walk_at "dl"
  refine ⟨fun i S' => ∃ x1 x2 x3 x4 x5, S' = [some (.py (stairPy day lamps)), some (.py (walkersPy ws)), some (.py (.int landing)), some (.ol (((firstsOf lamps.length landing ws).map firstPy).take i)), x1, x2, x3, x4, x5], ⟨_, _, _, _, _, rfl⟩, ?_, ?_⟩
  · rintro i d S' hi ⟨x1, x2, x3, x4, x5, rfl⟩
    obtain ⟨u, hu, rfl⟩ := map_get hi
    have hmem := List.mem_of_getElem? hu
    obtain ⟨h0, h1⟩ := hw u hmem
    have hlt := (List.getElem?_eq_some_iff.mp hu).1
    have key : ((firstsOf lamps.length landing ws).map firstPy)[i]? = some (firstPy (u.nm, u.first lamps.length landing)) := by
      unfold firstsOf; rw [List.map_map, List.getElem?_map, hu]; rfl
    have hlen : (((firstsOf lamps.length landing ws).map firstPy).take i).length ≤ 1000 := by unfold firstsOf; rw [List.length_take, List.length_map, List.length_map]; omega
    walk_at "dl"
    unfold Walker.way
    cases hup : u.up with
    | true =>
      have hf : u.first lamps.length landing = u.bg + landing * u.pc := by unfold Walker.first; rw [hup]; rfl
      refine if_t ?_ ?_
      · decide +kernel
      · rw [take_more key, hf]
        exact ⟨cmul_r ⟨by omega, by omega⟩, Nat.lt_of_le_of_lt hlen (by decide), _, _, _, _, _, rfl⟩
    | false =>
      have hf : u.first lamps.length landing = u.bg + ((lamps.length : Int) - 1 - landing) * u.pc := by unfold Walker.first; rw [hup]; rfl
      refine if_f ?_ ?_
      · decide +kernel
      · simp only [pInts, List.length_map]
        rw [take_more key, hf]
        exact ⟨cmul_r ⟨by omega, by omega⟩, Nat.lt_of_le_of_lt hlen (by decide), _, _, _, _, _, rfl⟩
  · rintro S' ⟨x1, x2, x3, x4, x5, rfl⟩
    walk_at "dl"
    have e : (ws.map Walker.py).length = ((firstsOf lamps.length landing ws).map firstPy).length := by unfold firstsOf; rw [List.length_map, List.length_map, List.length_map]
    rw [e, List.take_length]
    exact hp
end
/-! ### far draws, stairs, walkers of the bag -/
def C_far : Ct := fun B ds post => ∃ (b : Addr) (many : Int), ds = [.raw (.ref b), .py (.int many)] ∧ bagIn B b ∧ 0 < many ∧ ∀ r : Int, 0 ≤ r → r < many → post (.py (.int r))
structure OkStair (day : Int) (lamps : List Int) : Prop where
  d1 : 1 ≤ day
  d2 : day ≤ 1000000
  l1 : 1 ≤ lamps.length
  l2 : lamps.length ≤ 6
  lp : ∀ x ∈ lamps, 1 ≤ x ∧ x ≤ 1000000
def C_stair : Ct := fun B ds post => ∃ (b : Addr) (days burnings landings : Int), ds = [.raw (.ref b), .py (.int days), .py (.int burnings), .py (.int landings)] ∧ bagIn B b ∧ 1 ≤ days ∧ days ≤ 1000000 ∧ 1 ≤ burnings ∧ burnings ≤ 1000000 ∧ 1 ≤ landings ∧ landings ≤ 6 ∧
  ∀ (day : Int) (lamps : List Int), OkStair day lamps → day ≤ days → (lamps.length : Int) ≤ landings → (∀ x ∈ lamps, x ≤ burnings) → post (.py (stairPy day lamps))
abbrev s__law_far_draw : Stmt := top 53
theorem sc__law_far_draw : FnScope ["bag", "many", "found", "much"] ["bag", "many"] (defScope s__law_far_draw) := ⟨rfl, rfl, rfl, by decide +kernel, rfl, by decide +kernel, by decide +kernel⟩
abbrev s__law_stair : Stmt := top 54
theorem sc__law_stair : FnScope ["bag", "days", "burnings", "landings", "day", "lamps", "k"] ["bag", "days", "burnings", "landings"] (defScope s__law_stair) := ⟨rfl, rfl, rfl, by decide +kernel, rfl, by decide +kernel, by decide +kernel⟩
theorem far_pick {d a b c e : PyData} {r : Int} (h0 : 0 ≤ r) (h1 : r < 4) (h : atI [a, b, c, e] r = some d) : d = a ∨ d = b ∨ d = c ∨ d = e := by
  obtain ⟨n, rfl⟩ : ∃ n : Nat, r = (n : Int) := ⟨r.toNat, (Int.toNat_of_nonneg h0).symm⟩
  have : n = 0 ∨ n = 1 ∨ n = 2 ∨ n = 3 := by omega
  rcases this with rfl | rfl | rfl | rfl
  · have : some a = some d := atI_0.symm.trans h
    exact .inl (Option.some.inj this).symm
  · have : some b = some d := atI_1.symm.trans h
    exact .inr (.inl (Option.some.inj this).symm)
  · have : some c = some d := atI_2.symm.trans h
    exact .inr (.inr (.inl (Option.some.inj this).symm))
  · have : some e = some d := atI_3.symm.trans h
    exact .inr (.inr (.inr (Option.some.inj this).symm))
theorem four_cases {r : Int} (h0 : 0 ≤ r) (h1 : r < 4) : r = 0 ∨ r = 1 ∨ r = 2 ∨ r = 3 := by omega
theorem two_cases {r : Int} (h0 : 0 ≤ r) (h1 : r < 2) : r = 0 ∨ r = 1 := by omega
section
variable {P : Program} {w : World} {K : Kf} {mg : Str → Option Value} {base : Heap}
theorem cal_law_far_draw (d : Def K mg "_law_far_draw" s__law_far_draw) (T : Bl mg) (c_law_take : Cal P w K mg base "_law_take" ["bag", "many"] 1 C_take) : Cal P w K mg base "_law_far_draw" ["bag", "many"] 2 C_far := by
  refine calD d sc__law_far_draw (fun B ds post ⟨_, _, e, _⟩ => by subst e; exact ⟨rfl, fun d hd => by simp at hd; rcases hd with rfl | rfl <;> first | exact free_py | exact free_raw⟩) (fun _ _ _ _ _ _ _ us hl => match us, hl with | [_, _], _ => rfl) (fun f cdv A outer s H E B ds post hr c => ⟨_, (psd_cons (psd_par (i := 2) (j := 3) rfl sc__law_far_draw.nd rfl rfl (by decide) rfl rfl pd_int (pd_var 1) (by rfl))
        (psd_cons (psd_while PassesOwn.never (pdt_cmp op_gt od_gt (pd_var 3) pd_int (nomark _)) (psd_one (psd_par (i := 2) (j := 3) rfl sc__law_far_draw.nd rfl rfl (by decide) rfl rfl (pd_add (pd_mul pd_int (pd_var 2)) (pd_cal c_law_take hr (pda_cons (pd_var 0) (pda_cons pd_int pda_nil)))) (pd_fdiv (pd_var 3) pd_int) (by rfl))))
        (psd_one (psd_ret (pd_ix (pd_lst (pda_cons (pd_mod (pd_var 2) (pd_var 1)) (pda_cons pd_int (pda_cons (pd_sub (pd_var 1) pd_int) (pda_cons (pd_mod (pd_var 2) (pd_var 1)) pda_nil))))) (pd_cal c_law_take hr (pda_cons (pd_var 0) (pda_cons pd_int pda_nil)))))))), ?_⟩)
  obtain ⟨b, many, rfl, hb, h0, hp⟩ := c
  refine at_st (S' := [some (.raw (.ref b)), some (.py (.int many)), none, none]) rfl ?_
  walk_at "dl"
  refine ⟨fun m S' => ∃ x y : Int, S' = [some (.raw (.ref b)), some (.py (.int many)), some (.py (.int x)), some (.py (.int y))] ∧ 0 ≤ y ∧ m = y.toNat, ⟨_, _, _, rfl, by omega, rfl⟩, ?_⟩
  rintro m S' ⟨x, y, rfl, hy, rfl⟩
  walk_at "dl"
  refine if_dec (fun h => ?_) (fun h => ?_)
  · refine ⟨cmul_l ⟨by decide, by decide⟩, b, _, rfl, hb, by decide, fun r h1 h2 h3 => ⟨⟨by decide, by decide⟩, _, ?_, _, _, rfl, Int.ediv_nonneg hy (by decide), rfl⟩⟩
    have := Int.ediv_nonneg hy (show (0 : Int) ≤ 1000 by decide)
    have : y / 1000 < y := Int.ediv_lt_self_of_pos_of_ne_one h (by decide)
    omega
  · have e0 := Int.emod_nonneg x (show many ≠ 0 by omega)
    have e1 := Int.emod_lt_of_pos x h0
    refine ⟨h0, h0, b, _, rfl, hb, by decide, fun r h1 h2 h3 => ?_⟩
    rcases four_cases h1 h2 with rfl | rfl | rfl | rfl <;> walk_at "dl"
    · exact hp _ e0 e1
    · exact hp _ (by decide) h0
    · exact hp _ (by omega) (by omega)
    · exact hp _ e0 e1
theorem cal_law_stair (d : Def K mg "_law_stair" s__law_stair) (T : Bl mg) (c_law_take : Cal P w K mg base "_law_take" ["bag", "many"] 1 C_take) (c_law_far_draw : Cal P w K mg base "_law_far_draw" ["bag", "many"] 2 C_far) : Cal P w K mg base "_law_stair" ["bag", "days", "burnings", "landings"] 3 C_stair := by
  refine calD d sc__law_stair (fun B ds post ⟨_, _, _, _, e, _⟩ => by subst e; exact ⟨rfl, fun d hd => by simp at hd; rcases hd with rfl | rfl | rfl | rfl <;> first | exact free_py | exact free_raw⟩) (fun _ _ _ _ _ _ _ us hl => match us, hl with | [_, _, _, _], _ => rfl) (fun f cdv A outer s H E B ds post hr c => ⟨_, (psd_cons (psd_set (i := 4) sc__law_stair.nd rfl (Or.inl rfl) (pd_add pd_int (pd_cal c_law_far_draw hr (pda_cons (pd_var 0) (pda_cons (pd_var 1) pda_nil)))))
        (psd_cons (psd_setLc (i := 5) (own := [("k", 6)]) (g := (dgName 6)) (t := dYes) rfl sc__law_stair.nd rfl rfl (sw_true rfl rfl rfl (by decide +kernel)) (pdi_range1 (by rfl) T.range (pd_add pd_int (pd_cal c_law_take hr (pda_cons (pd_var 0) (pda_cons (pd_var 3) pda_nil))))) (blkOk_by (N := ["bag", "days", "burnings", "landings", "day", "lamps", "k"]) (sc := defScope s__law_stair) (by decide +kernel)) (fun _ _ _ _ _ => (pdg_name (i := 6) sc__law_stair.nd rfl (Or.inl rfl))) (fun _ _ _ _ _ => ptd_nil) (fun _ _ _ _ _ => (pd_add pd_int (pd_cal c_law_far_draw hr (pda_cons (pd_var 0) (pda_cons (pd_var 2) pda_nil))))))
        (psd_one (psd_ret (pd_tup (pda_cons (pd_var 4) (pda_cons (pd_tupleOf T (pd_var 5)) pda_nil))))))), ?_⟩)
  obtain ⟨b, days, burnings, landings, rfl, hb, d1, d2, b1, b2, l1, l2, hp⟩ := c
  refine at_st (S' := [some (.raw (.ref b)), some (.py (.int days)), some (.py (.int burnings)), some (.py (.int landings)), none, none, none]) rfl ?_
  walk_at "dl"
  refine ⟨b, _, rfl, hb, by omega, fun r h1 h2 => ⟨b, _, rfl, hb, by omega, fun q g1 g2 g3 => ?_⟩⟩
  walk_at "dl"
  refine ⟨by omega, by omega, fun i acc => ∃ ns : List Int, acc = pInts ns ∧ ns.length = i ∧ ∀ x ∈ ns, 1 ≤ x ∧ x ≤ burnings, ⟨[], rfl, rfl, fun x h => absurd h (by simp)⟩, ?_, ?_⟩
  · rintro i d acc hi ⟨ns, rfl, hl, hn⟩
    obtain ⟨hi1, rfl⟩ := range_get hi
    walk_at "dl"
    refine ⟨b, _, rfl, hb, by omega, fun x x1 x2 => ⟨?_, _, snoc_int _ _, by rw [List.length_append, hl, List.length_singleton], all_snoc hn (by omega)⟩⟩
    have : (pInts ns).length ≤ 6 := by rw [List.length_map, hl]; omega
    exact Nat.lt_of_le_of_lt this (by decide)
  · rintro acc ⟨ns, rfl, hl, hn⟩
    rw [List.length_map, List.length_range] at hl
    have hl2 : (ns.length : Int) = 1 + q := by omega
    have o : OkStair (1 + r) ns := ⟨by omega, by omega, by omega, by omega, fun x hx => ⟨(hn x hx).1, by have := (hn x hx).2; omega⟩⟩
    exact hp _ _ o (by omega) (by omega) fun x hx => (hn x hx).2
end
def lawNames : List Str := ["ann", "bo", "cy", "dee", "eli", "fay", "gus", "hal"]
structure LawWs (day many far : Int) (ws : List Walker) : Prop where
  n1 : 1 ≤ ws.length
  n2 : (ws.length : Int) ≤ many
  wk : ∀ (i : Nat) (w : Walker), ws[i]? = some w → lawNames[i]? = some w.nm ∧ 0 ≤ w.bg ∧ w.bg < day ∧ 0 ≤ w.pc ∧ (w.pc ≤ 6 ∨ w.pc ≤ far)
def C_walkers : Ct := fun B ds post => ∃ (b : Addr) (day : Int) (lamps : List Int) (many far : Int), ds = [.raw (.ref b), .py (stairPy day lamps), .py (.int many), .py (.int far)] ∧ bagIn B b ∧ 1 ≤ day ∧ 1 ≤ many ∧ many ≤ 8 ∧ 0 ≤ far ∧
  ∀ ws : List Walker, LawWs day many far ws → post (.py (walkersPy ws))
abbrev s__law_walkers : Stmt := top 55
theorem sc__law_walkers : FnScope ["bag", "stair", "many", "far", "names", "found", "name", "begin", "pace"] ["bag", "stair", "many", "far"] (defScope s__law_walkers) := ⟨rfl, rfl, rfl, by decide +kernel, rfl, by decide +kernel, by decide +kernel⟩
theorem snoc_w (ws : List Walker) (w : Walker) : ws.map Walker.py ++ [w.py] = (ws ++ [w]).map Walker.py := by rw [List.map_append]; rfl
theorem snoc_get {α : Type} {l : List α} {x : α} {P : Nat → α → Prop} (h : ∀ i y, l[i]? = some y → P i y) (hx : P l.length x) : ∀ i y, (l ++ [x])[i]? = some y → P i y := fun i y e => by
  by_cases hi : i < l.length
  · rw [List.getElem?_append_left hi] at e; exact h i y e
  · rw [List.getElem?_append_right (by omega)] at e
    by_cases h0 : i - l.length = 0
    · rw [h0] at e
      have e1 : x = y := Option.some.inj e
      subst e1
      have : i = l.length := by omega
      subst this; exact hx
    · rw [List.getElem?_eq_none (by show 1 ≤ _; omega)] at e; cases e
section
variable {P : Program} {w : World} {K : Kf} {mg : Str → Option Value} {base : Heap}
theorem cal_law_walkers (d : Def K mg "_law_walkers" s__law_walkers) (T : Bl mg) (c_law_take : Cal P w K mg base "_law_take" ["bag", "many"] 1 C_take) (c_law_far_draw : Cal P w K mg base "_law_far_draw" ["bag", "many"] 2 C_far) : Cal P w K mg base "_law_walkers" ["bag", "stair", "many", "far"] 3 C_walkers := by
  refine calD d sc__law_walkers (fun B ds post ⟨_, _, _, _, _, e, _⟩ => by subst e; exact ⟨rfl, fun d hd => by simp at hd; rcases hd with rfl | rfl | rfl | rfl <;> first | exact free_py | exact free_raw⟩) (fun _ _ _ _ _ _ _ us hl => match us, hl with | [_, _, _, _], _ => rfl) (fun f cdv A outer s H E B ds post hr c => ⟨_, (psd_cons (psd_parL (i := 4) (j := 5) rfl sc__law_walkers.nd rfl rfl (by decide) rfl rfl (pd_lst (pda_cons pd_str (pda_cons pd_str (pda_cons pd_str (pda_cons pd_str (pda_cons pd_str (pda_cons pd_str (pda_cons pd_str (pda_cons pd_str pda_nil))))))))) (by rfl))
        (psd_cons (psd_for PassesOwn.never rfl (pdi_list (pd_slice (pd_var 4) pdo_none (pdo_some (pd_add pd_int (pd_cal c_law_take hr (pda_cons (pd_var 0) (pda_cons (pd_var 2) pda_nil))))))) (pdg_name (i := 6) sc__law_walkers.nd rfl (Or.inl rfl)) (psd_cons (psd_set (i := 7) sc__law_walkers.nd rfl (Or.inl rfl) (pd_ix (pd_lst (pda_cons pd_int (pda_cons (pd_cal c_law_far_draw hr (pda_cons (pd_var 0) (pda_cons (pd_ix (pd_var 1) pd_int) pda_nil))) (pda_cons (pd_cal c_law_take hr (pda_cons (pd_var 0) (pda_cons (pd_min2 T rfl pd_int (pd_ix (pd_var 1) pd_int)) pda_nil))) (pda_cons (pd_sub (pd_ix (pd_var 1) pd_int) pd_int) pda_nil))))) (pd_cal c_law_take hr (pda_cons (pd_var 0) (pda_cons pd_int pda_nil)))))
        (psd_cons (psd_set (i := 8) sc__law_walkers.nd rfl (Or.inl rfl) (pd_ix (pd_lst (pda_cons pd_int (pda_cons pd_int (pda_cons (pd_cal c_law_take hr (pda_cons (pd_var 0) (pda_cons pd_int pda_nil))) (pda_cons (pd_cal c_law_take hr (pda_cons (pd_var 0) (pda_cons (pd_add (pd_var 3) pd_int) pda_nil))) pda_nil))))) (pd_cal c_law_take hr (pda_cons (pd_var 0) (pda_cons pd_int pda_nil)))))
        (psd_one (psd_app (i := 5) rfl (Or.inl rfl) (by decide) (by decide) (pd_tup (pda_cons (pd_var 6) (pda_cons (pd_var 7) (pda_cons (pd_var 8) (pda_cons (pd_ix (pd_lst (pda_cons pd_str (pda_cons pd_str pda_nil))) (pd_cal c_law_take hr (pda_cons (pd_var 0) (pda_cons pd_int pda_nil)))) pda_nil))))) (fun ho ha => pe_bm PySem.F.plainAttrs_list PySem.F.slot_list_append PySem.F.type_list_append mt_append ho ha) (by rfl) (by rfl))))))
        (psd_one (psd_ret (pd_tupleOf T (pd_var 5)))))), ?_⟩)
  obtain ⟨b, day, lamps, many, far, rfl, hb, d1, m1, m2, f0, hp⟩ := c
  refine at_st (S' := [some (.raw (.ref b)), some (.py (stairPy day lamps)), some (.py (.int many)), some (.py (.int far)), none, none, none, none, none]) rfl ?_
  walk_at "dl"
  refine ⟨b, _, rfl, hb, by omega, fun q g1 g2 g3 => ?_⟩
  walk_at "dl"
  obtain ⟨n, hn⟩ : ∃ n : Nat, 1 + q = (n : Int) := ⟨(1 + q).toNat, by omega⟩
  rw [hn, cut_to]
  refine ⟨fun i S' => ∃ (ws : List Walker) (nl : PyData) (x1 x2 x3 : Option D), S' = [some (.raw (.ref b)), some (.py (stairPy day lamps)), some (.py (.int many)), some (.py (.int far)), some (.py nl), some (.ol (ws.map Walker.py)), x1, x2, x3] ∧ ws.length = i ∧ ∀ (i : Nat) (w : Walker), ws[i]? = some w → lawNames[i]? = some w.nm ∧ 0 ≤ w.bg ∧ w.bg < day ∧ 0 ≤ w.pc ∧ (w.pc ≤ 6 ∨ w.pc ≤ far), ⟨[], _, _, _, _, rfl, rfl, fun i w h => by simp at h⟩, ?_, ?_⟩
  · rintro i d S' hi ⟨ws, nl, x1, x2, x3, rfl, hl, hw⟩
    obtain ⟨hi1, nm, hnm, rfl⟩ : i < n ∧ ∃ nm, lawNames[i]? = some nm ∧ d = .str nm := by
      have h0 := (List.getElem?_eq_some_iff.mp hi).1
      rw [List.length_take] at h0
      have h1 : i < n := by omega
      rw [List.getElem?_take_of_lt h1] at hi
      obtain ⟨nm, k1, k2⟩ := map_get (l := lawNames) (f := PyData.str) hi
      exact ⟨h1, nm, k1, k2.symm⟩
    have hlen : (ws.map Walker.py).length < 16000000 := by rw [List.length_map]; omega
    walk_at "dl"
    refine ⟨b, day, rfl, hb, by omega, fun r1 a1 a2 => ⟨b, _, rfl, hb, by split <;> omega, fun r2 a3 a4 a5 => ⟨(show (4 : Nat) ≤ 1000 by decide), b, _, rfl, hb, by decide, fun r3 a6 a7 a8 => ?_⟩⟩⟩
    have a4' : r2 < day := by split at a4 <;> omega
    have hbg : ∃ bg : Int, atI [PyData.int 0, PyData.int r1, PyData.int r2, PyData.int (day - 1)] r3 = some (.int bg) ∧ 0 ≤ bg ∧ bg < day := by
      rcases four_cases a6 a7 with rfl | rfl | rfl | rfl
      · exact ⟨_, atI_0, by omega, by omega⟩
      · exact ⟨_, atI_1, by omega, by omega⟩
      · exact ⟨_, atI_2, by omega, by omega⟩
      · exact ⟨_, atI_3, by omega, by omega⟩
    obtain ⟨bg, hbg, bg0, bg1⟩ := hbg
    walk_at "dl"
    rw [hbg]
    walk_at "dl"
    refine ⟨b, _, rfl, hb, by decide, fun r4 b1 b2 b3 => ⟨b, _, rfl, hb, by omega, fun r5 b4 b5 b6 => ⟨(show (4 : Nat) ≤ 1000 by decide), b, _, rfl, hb, by decide, fun r6 b7 b8 b9 => ?_⟩⟩⟩
    have hpc : ∃ pc : Int, atI [PyData.int 0, PyData.int 1, PyData.int r4, PyData.int r5] r6 = some (.int pc) ∧ 0 ≤ pc ∧ (pc ≤ 6 ∨ pc ≤ far) := by
      rcases four_cases b7 b8 with rfl | rfl | rfl | rfl
      · exact ⟨_, atI_0, by omega, by omega⟩
      · exact ⟨_, atI_1, by omega, by omega⟩
      · exact ⟨_, atI_2, by omega, by omega⟩
      · exact ⟨_, atI_3, by omega, by omega⟩
    obtain ⟨pc, hpc, pc0, pc1⟩ := hpc
    walk_at "dl"
    rw [hpc]
    walk_at "dl"
    refine ⟨b, _, rfl, hb, by decide, fun r7 e1 e2 e3 => ?_⟩
    have hup : ∃ up : Bool, atI [PyData.str "up", PyData.str "down"] r7 = some (.str (Walker.way ⟨nm, bg, pc, up⟩)) := by
      rcases two_cases e1 e2 with rfl | rfl
      · exact ⟨true, atI_0⟩
      · exact ⟨false, atI_1⟩
    obtain ⟨up, hup⟩ := hup
    walk_at "dl"
    rw [hup]
    walk_at "dl"
    exact ⟨hlen, ws ++ [⟨nm, bg, pc, up⟩], _, _, _, _, by rw [← snoc_w]; rfl, by rw [List.length_append, hl]; rfl, snoc_get hw (by rw [hl]; exact ⟨hnm, bg0, bg1, pc0, pc1⟩)⟩
  · rintro S' ⟨ws, nl, x1, x2, x3, rfl, hl, hw⟩
    rw [List.length_take] at hl
    have hl : ws.length = min n 8 := hl
    walk_at "dl"
    exact hp ws ⟨by omega, by omega, hw⟩
end
/-! ### what is judged -/
abbrev small : Str := "abcdefghijklmnopqrstuvwxyz"
def withinB (d : PyData) (lo hi : Int) : Bool := match d with
  | .int i => decide (lo ≤ i) && decide (i ≤ hi)
  | _ => false
def nameB (d : PyData) : Bool := match d with
  | .str s => decide (1 ≤ s.length) && decide (s.length ≤ 8) && s.cps.toList.all fun c => decide (c ∈ small.cps.toList)
  | _ => false
def stairB (d : PyData) : Bool := match d with
  | .tuple [a, .tuple l] => withinB a 1 1000000 && decide (1 ≤ l.length) && decide (l.length ≤ 6) && l.all fun x => withinB x 1 1000000
  | _ => false
def walkerB (day : Int) (d : PyData) : Bool := match d with
  | .tuple [a, b, c, e] => nameB a && withinB b 0 (day - 1) && withinB c 0 1000 && (match e with | .str s => decide (s = "up") || decide (s = "down") | _ => false)
  | _ => false
def nmLt : PyData → PyData → Bool
  | .tuple (.str a :: _), .tuple (.str b :: _) => decide (a.cps.toList < b.cps.toList)
  | _, _ => false
def ascB : List PyData → Bool
  | a :: b :: l => nmLt a b && ascB (b :: l)
  | _ => true
def walkersB (day : Int) (d : PyData) : Bool := match d with
  | .tuple l => decide (1 ≤ l.length) && decide (l.length ≤ 8) && l.all (walkerB day) && ascB l
  | _ => false
/-- texts of a length that the model takes -/
def nmOk (q : PyData) : Prop := ∀ s, q = .str s → s.length ≤ 16000000
def wkOk (q : PyData) : Prop := ∀ a r, q = .tuple (a :: r) → nmOk a
def wsOk (q : PyData) : Prop := ∀ l, q = .tuple l → ∀ x ∈ l, wkOk x
def C_within : Ct := fun _ ds post => ∃ (q : PyData) (lo hi : Int), ds = [.py q, .py (.int lo), .py (.int hi)] ∧ post (.py (.bool (withinB q lo hi)))
def C_isname : Ct := fun _ ds post => ∃ q : PyData, ds = [.py q] ∧ nmOk q ∧ post (.py (.bool (nameB q)))
def C_isstair : Ct := fun _ ds post => ∃ q : PyData, ds = [.py q] ∧ post (.py (.bool (stairB q)))
def C_iswalker : Ct := fun _ ds post => ∃ (q : PyData) (day : Int) (lamps : List Int), ds = [.py (stairPy day lamps), .py q] ∧ wkOk q ∧ post (.py (.bool (walkerB day q)))
def C_areall : Ct := fun _ ds post => ∃ (q : PyData) (day : Int) (lamps : List Int), ds = [.py (stairPy day lamps), .py q] ∧ wsOk q ∧ post (.py (.bool (walkersB day q)))
abbrev s_is_within : Stmt := top 13
theorem sc_is_within : FnScope ["thing", "low", "high"] ["thing", "low", "high"] (defScope s_is_within) := ⟨rfl, rfl, rfl, by decide +kernel, rfl, by decide +kernel, by decide +kernel⟩
abbrev s_is_name : Stmt := top 14
theorem sc_is_name : FnScope ["thing", "sign"] ["thing"] (defScope s_is_name) := ⟨rfl, rfl, rfl, by decide +kernel, rfl, by decide +kernel, by decide +kernel⟩
abbrev s_is_stair : Stmt := top 15
theorem sc_is_stair : FnScope ["thing", "burning"] ["thing"] (defScope s_is_stair) := ⟨rfl, rfl, rfl, by decide +kernel, rfl, by decide +kernel, by decide +kernel⟩
theorem isi_int (q : PyData) : ∃ t, (D.py q).ty = some t := by cases q <;> exact ⟨_, rfl⟩
theorem all_map {α : Type} (f : α → PyData) : ∀ {bs : List Bool} {l : List α} {g : α → Bool}, bs = l.map g → bs.all id = l.all g := fun {bs l g} e => by subst e; rw [List.all_map]; rfl
section
variable {P : Program} {w : World} {K : Kf} {mg : Str → Option Value} {base : Heap}
theorem cal_is_within (d : Def K mg "is_within" s_is_within) (T : Bl mg) : Cal P w K mg base "is_within" ["thing", "low", "high"] 1 C_within := by
  refine calD d sc_is_within (fun B ds post ⟨_, _, _, e, _⟩ => by subst e; exact ⟨rfl, fun d hd => by simp at hd; rcases hd with rfl | rfl | rfl <;> exact free_py⟩) (fun _ _ _ _ _ _ _ us hl => match us, hl with | [_, _, _], _ => rfl) (fun f cdv A outer s H E B ds post hr c => ⟨_, (psd_one (psd_ret (pd_and (pd_isi T (pd_var 0) (pd_ty (by rfl) T.int bo_int)) (pd_and (pd_not (pd_isi T (pd_var 0) (pd_ty (by rfl) T.bool bo_bool))) (pd_one (pd_chain op_le op_le od_le od_le (pd_var 1) (pd_var 0) (pd_var 2))))))), ?_⟩)
  obtain ⟨q, lo, hi, rfl, hp⟩ := c
  refine at_st (S' := [some (.py q), some (.py (.int lo)), some (.py (.int hi))]) rfl ?_
  cases q with
  | int i =>
    walk_at "dl"
    refine ⟨by decide, if_t rfl ⟨by decide, if_t rfl ?_⟩⟩
    unfold withinB at hp
    refine if_dec (fun h => ?_) (fun h => ?_)
    · simp only [decide_eq_true h, Bool.true_and] at hp; exact hp
    · simp only [decide_eq_false h, Bool.false_and] at hp; exact hp
  | bool b =>
    walk_at "dl"
    exact ⟨by decide, if_t rfl ⟨by decide, if_f rfl hp⟩⟩
  | _ =>
    walk_at "dl"
    exact ⟨by decide, if_f rfl hp⟩
theorem cal_is_name (d : Def K mg "is_name" s_is_name) (T : Bl mg) (TSMALL : ∃ t, mg "SMALL" = some (.str small t)) : Cal P w K mg base "is_name" ["thing"] 1 C_isname := by
  refine calD d sc_is_name (fun B ds post ⟨_, e, _⟩ => by subst e; exact ⟨rfl, fun d hd => by simp at hd; rcases hd with rfl; exact free_py⟩) (fun _ _ _ _ _ _ _ us hl => match us, hl with | [_], _ => rfl) (fun f cdv A outer s H E B ds post hr c => ⟨_, (psd_one (psd_ret (pd_and (pd_isi T (pd_var 0) (pd_ty (by rfl) T.str bo_str)) (pd_and (pd_chain op_le op_le od_le od_le pd_int (pd_len T (pd_var 0)) pd_int) (pd_one (pd_all T rfl (pd_lc (own := [("sign", 1)]) (g := (dgName 1)) (t := dYes) rfl sc_is_name.nd (pdi_str (pd_var 0)) (blkOk_by (N := ["thing", "sign"]) (sc := defScope s_is_name) (by decide +kernel)) (fun _ _ _ _ _ => (pdg_name (i := 1) sc_is_name.nd rfl (Or.inl rfl))) (fun _ _ _ _ _ => ptd_nil) (fun _ _ _ _ _ => (pd_cmp op_in_sign od_inS (pd_var 1) (pd_globS (by rfl) TSMALL) (by rfl)))))))))), ?_⟩)
  obtain ⟨q, rfl, hq, hp⟩ := c
  refine at_st (S' := [some (.py q), none]) rfl ?_
  cases q with
  | str z =>
    walk_at "dl"
    have n1 : (1 : Int) ≤ (z.length : Int) ↔ 1 ≤ z.length := by omega
    have n2 : (z.length : Int) ≤ 8 ↔ z.length ≤ 8 := by omega
    refine ⟨by decide, if_t rfl ⟨hq z rfl, if_dec (fun h => if_dec (fun h2 => ?_) (fun h2 => ?_)) (fun h => if_f rfl ?_)⟩⟩
    · refine ⟨fun i acc => acc = ((z.cps.toList.map fun c => PyData.bool (decide (c ∈ small.cps.toList)))).take i, rfl, ?_, ?_⟩
      · rintro i d acc hi rfl
        obtain ⟨x, hx, rfl⟩ := map_get hi
        have key : (z.cps.toList.map fun c => PyData.bool (decide (c ∈ small.cps.toList)))[i]? = some (PyData.bool (decide (x ∈ small.cps.toList))) := by rw [List.getElem?_map, hx]; rfl
        walk_at "dl"
        refine ⟨x, rfl, ?_, (take_more key).symm⟩
        rw [List.length_take, List.length_map]
        have : z.cps.toList.length = z.length := by rw [Array.length_toList]; rfl
        omega
      · rintro acc rfl
        rw [List.length_map]
        refine ⟨z.cps.toList.map fun c => decide (c ∈ small.cps.toList), ?_, ?_⟩
        · rw [List.take_of_length_le (by rw [List.length_map]; exact Nat.le_refl _), List.map_map]; rfl
        · rw [List.all_map]
          have e : nameB (PyData.str z) = z.cps.toList.all (id ∘ fun c => decide (c ∈ small.cps.toList)) := by
            unfold nameB
            simp only [decide_eq_true (n1.mp h), decide_eq_true (n2.mp h2), Bool.true_and]
            rfl
          rw [← e]; exact hp
    · have e : nameB (PyData.str z) = false := by
        unfold nameB
        simp only [decide_eq_false (fun q => h2 (n2.mpr q)), Bool.and_false, Bool.false_and]
      rw [← e]; exact hp
    · have e : nameB (PyData.str z) = false := by
        unfold nameB
        simp only [decide_eq_false (fun q => h (n1.mpr q)), Bool.false_and]
      rw [← e]; exact hp
  | _ =>
    walk_at "dl"
    exact ⟨by decide, if_f rfl hp⟩
theorem cal_is_stair (d : Def K mg "is_stair" s_is_stair) (T : Bl mg) (c_is_within : Cal P w K mg base "is_within" ["thing", "low", "high"] 1 C_within) : Cal P w K mg base "is_stair" ["thing"] 2 C_isstair := by
  refine calD d sc_is_stair (fun B ds post ⟨_, e, _⟩ => by subst e; exact ⟨rfl, fun d hd => by simp at hd; rcases hd with rfl; exact free_py⟩) (fun _ _ _ _ _ _ _ us hl => match us, hl with | [_], _ => rfl) (fun f cdv A outer s H E B ds post hr c => ⟨_, (psd_cons (psd_if (PDW.t (pdw_or (pdt_not (pdt_val (pd_isi T (pd_var 0) (pd_ty (by rfl) T.tuple bo_tuple)))) (pdw_or (pdt_cmp (op_neA hr.units) od_ne (pd_len T (pd_var 0)) pd_int (nomark _)) (pdw_or1 (pdt_not (pdt_val (pd_cal c_is_within hr (pda_cons (pd_ix (pd_var 0) pd_int) (pda_cons pd_int (pda_cons (pd_pow (n := 1000000)) pda_nil)))))))))) (psd_one (psd_ret pd_bl)) psd_nil)
        (psd_cons (psd_if (PDW.t (pdw_or (pdt_not (pdt_val (pd_isi T (pd_ix (pd_var 0) pd_int) (pd_ty (by rfl) T.tuple bo_tuple)))) (pdw_or1 (pdt_not (pdt_chain op_le op_le od_le od_le pd_int (pd_len T (pd_ix (pd_var 0) pd_int)) pd_int))))) (psd_one (psd_ret pd_bl)) psd_nil)
        (psd_one (psd_ret (pd_all T rfl (pd_lc (own := [("burning", 1)]) (g := (dgName 1)) (t := dYes) rfl sc_is_stair.nd (pdi_tup (pd_ix (pd_var 0) pd_int)) (blkOk_by (N := ["thing", "burning"]) (sc := defScope s_is_stair) (by decide +kernel)) (fun _ _ _ _ _ => (pdg_name (i := 1) sc_is_stair.nd rfl (Or.inl rfl))) (fun _ _ _ _ _ => ptd_nil) (fun _ _ _ _ _ => (pd_cal c_is_within hr (pda_cons (pd_var 1) (pda_cons pd_int (pda_cons (pd_pow (n := 1000000)) pda_nil))))))))))), ?_⟩)
  obtain ⟨q, rfl, hp⟩ := c
  refine at_st (S' := [some (.py q), none]) rfl ?_
  cases q with
  | tuple l =>
    walk_at "dl"
    refine ⟨by decide, if_f rfl (if_ndec (fun h => ?_) (fun h => ?_))⟩
    · have e : stairB (.tuple l) = false := by
        rcases l with _ | ⟨a, _ | ⟨b, _ | ⟨c, r⟩⟩⟩
        · rfl
        · rfl
        · exact absurd rfl h
        · cases b <;> rfl
      rw [e] at hp; exact hp
    · obtain ⟨a, b, rfl⟩ : ∃ a b, l = [a, b] := by
        rcases l with _ | ⟨a, _ | ⟨b, _ | ⟨c, r⟩⟩⟩
        · cases h
        · cases h
        · exact ⟨a, b, rfl⟩
        · exfalso; simp only [List.length_cons] at h; omega
      walk_at "dl"
      refine ⟨a, _, _, rfl, ?_⟩
      walk_at "dl"
      refine if_nb (fun hw => ?_) (fun hw => ?_)
      · have e : stairB (.tuple [a, b]) = false := by cases b <;> first | rfl | (unfold stairB; simp only [hw, Bool.false_and])
        rw [e] at hp; exact hp
      · cases b with
        | tuple l =>
          have n1 : (1 : Int) ≤ (l.length : Int) ↔ 1 ≤ l.length := by omega
          have n2 : (l.length : Int) ≤ 6 ↔ l.length ≤ 6 := by omega
          unfold stairB at hp
          walk_at "dl"
          refine ⟨by decide, if_f rfl (if_dec (fun h1 => if_ndec (fun h2 => ?_) (fun h2 => ?_)) (fun h1 => if_t rfl ?_))⟩
          · simp only [decide_eq_false (fun q => h2 (n2.mpr q)), Bool.and_false, Bool.false_and] at hp; exact hp
          · simp only [hw, decide_eq_true (n1.mp h1), decide_eq_true (n2.mp h2), Bool.true_and] at hp
            exact all_lc (fun x => withinB x 1 1000000) (fun d p => C_within B [D.py d, D.py (PyData.int 1), D.py (PyData.int 1000000)] p) (by omega) (fun i d _ p hp => ⟨d, _, _, rfl, hp⟩) hp
          · simp only [decide_eq_false (fun q => h1 (n1.mpr q)), Bool.and_false, Bool.false_and] at hp; exact hp
        | _ =>
          walk_at "dl"
          exact ⟨by decide, hp⟩
  | _ =>
    walk_at "dl"
    exact ⟨by decide, hp⟩
end
abbrev s_is_walker : Stmt := top 17
theorem sc_is_walker : FnScope ["stair", "thing"] ["stair", "thing"] (defScope s_is_walker) := ⟨rfl, rfl, rfl, by decide +kernel, rfl, by decide +kernel, by decide +kernel⟩
abbrev s_are_all_walkers : Stmt := top 18
theorem sc_are_all_walkers : FnScope ["stair", "thing", "one", "other"] ["stair", "thing"] (defScope s_are_all_walkers) := ⟨rfl, rfl, rfl, by decide +kernel, rfl, by decide +kernel, by decide +kernel⟩
section
variable {P : Program} {w : World} {K : Kf} {mg : Str → Option Value} {base : Heap}
theorem cal_is_walker (d : Def K mg "is_walker" s_is_walker) (T : Bl mg) (c_is_within : Cal P w K mg base "is_within" ["thing", "low", "high"] 1 C_within) (c_is_name : Cal P w K mg base "is_name" ["thing"] 1 C_isname) : Cal P w K mg base "is_walker" ["stair", "thing"] 2 C_iswalker := by
  refine calD d sc_is_walker (fun B ds post ⟨_, _, _, e, _⟩ => by subst e; exact ⟨rfl, fun d hd => by simp at hd; rcases hd with rfl | rfl <;> exact free_py⟩) (fun _ _ _ _ _ _ _ us hl => match us, hl with | [_, _], _ => rfl) (fun f cdv A outer s H E B ds post hr c => ⟨_, (psd_cons (psd_if (PDW.t (pdw_or (pdt_not (pdt_val (pd_isi T (pd_var 1) (pd_ty (by rfl) T.tuple bo_tuple)))) (pdw_or (pdt_cmp (op_neA hr.units) od_ne (pd_len T (pd_var 1)) pd_int (nomark _)) (pdw_or1 (pdt_not (pdt_val (pd_cal c_is_name hr (pda_cons (pd_ix (pd_var 1) pd_int) pda_nil)))))))) (psd_one (psd_ret pd_bl)) psd_nil)
        (psd_cons (psd_if (PDW.t (pdw_or (pdt_not (pdt_val (pd_cal c_is_within hr (pda_cons (pd_ix (pd_var 1) pd_int) (pda_cons pd_int (pda_cons (pd_sub (pd_ix (pd_var 0) pd_int) pd_int) pda_nil)))))) (pdw_or1 (pdt_not (pdt_val (pd_cal c_is_within hr (pda_cons (pd_ix (pd_var 1) pd_int) (pda_cons pd_int (pda_cons pd_int pda_nil))))))))) (psd_one (psd_ret pd_bl)) psd_nil)
        (psd_one (psd_ret (pd_and (pd_isi T (pd_ix (pd_var 1) pd_int) (pd_ty (by rfl) T.str bo_str)) (pd_one (pd_cmp op_in_seq od_in (pd_ix (pd_var 1) pd_int) (pd_tup (pda_cons pd_str (pda_cons pd_str pda_nil))) (by rfl)))))))), ?_⟩)
  obtain ⟨q, day, lamps, rfl, hq, hp⟩ := c
  refine at_st (S' := [some (.py (stairPy day lamps)), some (.py q)]) rfl ?_
  cases q with
  | tuple l =>
    walk_at "dl"
    refine ⟨by decide, if_f rfl (if_ndec (fun h => ?_) (fun h => ?_))⟩
    · have e : walkerB day (.tuple l) = false := by
        rcases l with _ | ⟨a, _ | ⟨b, _ | ⟨c, _ | ⟨e, _ | ⟨f, r⟩⟩⟩⟩⟩ <;> first | rfl | exact absurd rfl h
      rw [e] at hp; exact hp
    · obtain ⟨a, b, c, e, rfl⟩ : ∃ a b c e, l = [a, b, c, e] := by
        rcases l with _ | ⟨a, _ | ⟨b, _ | ⟨c, _ | ⟨e, _ | ⟨f, r⟩⟩⟩⟩⟩ <;> first | exact ⟨_, _, _, _, rfl⟩ | cases h | (exfalso; simp only [List.length_cons] at h; omega)
      unfold walkerB at hp
      walk_at "dl"
      refine ⟨a, rfl, hq a _ rfl, ?_⟩
      walk_at "dl"
      refine if_nb (fun h1 => ?_) (fun h1 => ?_)
      · simp only [h1, Bool.false_and] at hp; exact hp
      · refine ⟨b, _, _, rfl, ?_⟩
        walk_at "dl"
        refine if_nb (fun h2 => ?_) (fun h2 => ?_)
        · simp only [h2, Bool.and_false, Bool.false_and] at hp; exact hp
        · refine ⟨c, _, _, rfl, ?_⟩
          walk_at "dl"
          refine if_nb (fun h3 => ?_) (fun h3 => ?_)
          · simp only [h3, Bool.and_false, Bool.false_and] at hp; exact hp
          · simp only [h1, h2, h3, Bool.true_and] at hp
            cases e with
            | str z =>
              walk_at "dl"
              refine ⟨by decide, if_t rfl ⟨rfl, rfl, ?_⟩⟩
              have e : ([PyData.str "up", PyData.str "down"].any fun e => e.eqv (PyData.str z)) = (decide (z = "up") || decide (z = "down")) := by
                simp only [List.any_cons, List.any_nil, Bool.or_false, PyData.eqv]
                rw [show decide (z = ("up" : Str)) = decide (("up" : Str) = z) from decide_eq_decide.mpr eq_comm, show decide (z = ("down" : Str)) = decide (("down" : Str) = z) from decide_eq_decide.mpr eq_comm]
                first | rfl | simp only [beq_eq_decide]
              rw [e]; exact hp
            | _ =>
              walk_at "dl"
              exact ⟨by decide, if_f rfl hp⟩
  | _ =>
    walk_at "dl"
    exact ⟨by decide, hp⟩
theorem walkerB_shape {day : Int} {q : PyData} (h : walkerB day q = true) : ∃ (nm : Str) (bg pc : Int) (way : Str), q = .tuple [.str nm, .int bg, .int pc, .str way] ∧ nameB (.str nm) = true ∧ 0 ≤ bg ∧ bg < day ∧ 0 ≤ pc ∧ pc ≤ 1000 ∧ (way = "up" ∨ way = "down") := by
  unfold walkerB at h
  split at h
  · next a b c e =>
    rw [Bool.and_eq_true, Bool.and_eq_true, Bool.and_eq_true] at h
    obtain ⟨⟨⟨h1, h2⟩, h3⟩, h4⟩ := h
    cases a with
    | str nm =>
      cases b with
      | int bg =>
        cases c with
        | int pc =>
          cases e with
          | str way =>
            simp only [withinB, Bool.and_eq_true, decide_eq_true_eq] at h2 h3
            simp only [Bool.or_eq_true, decide_eq_true_eq] at h4
            exact ⟨nm, bg, pc, way, rfl, h1, h2.1, by omega, h3.1, h3.2, h4⟩
          | _ => cases h4
        | _ => cases h3
      | _ => cases h2
    | _ => cases h1
  · cases h
def pairLt : PyData → Bool
  | .tuple [x, y] => nmLt x y
  | _ => false
theorem zip_asc : ∀ l : List PyData, (zipP l (l.drop 1)).all pairLt = ascB l
  | [] => rfl
  | [a] => rfl
  | a :: b :: l => by
    have ih := zip_asc (b :: l)
    show (nmLt a b && (zipP (b :: l) l).all _) = (nmLt a b && ascB (b :: l))
    rw [← ih]; rfl
theorem zip_get {xs ys : List PyData} {i : Nat} {d : PyData} (h : (zipP xs ys)[i]? = some d) : ∃ x y, xs[i]? = some x ∧ ys[i]? = some y ∧ d = .tuple [x, y] := by
  unfold zipP at h
  rw [List.getElem?_zipWith] at h
  split at h
  · next x y h1 h2 => exact ⟨x, y, h1, h2, (Option.some.inj h).symm⟩
  · cases h
theorem cal_are_all_walkers (d : Def K mg "are_all_walkers" s_are_all_walkers) (T : Bl mg) (c_is_walker : Cal P w K mg base "is_walker" ["stair", "thing"] 2 C_iswalker) : Cal P w K mg base "are_all_walkers" ["stair", "thing"] 3 C_areall := by
  refine calD d sc_are_all_walkers (fun B ds post ⟨_, _, _, e, _⟩ => by subst e; exact ⟨rfl, fun d hd => by simp at hd; rcases hd with rfl | rfl <;> exact free_py⟩) (fun _ _ _ _ _ _ _ us hl => match us, hl with | [_, _], _ => rfl) (fun f cdv A outer s H E B ds post hr c => ⟨_, (psd_cons (psd_if (PDW.t (pdw_or (pdt_not (pdt_val (pd_isi T (pd_var 1) (pd_ty (by rfl) T.tuple bo_tuple)))) (pdw_or1 (pdt_not (pdt_chain op_le op_le od_le od_le pd_int (pd_len T (pd_var 1)) pd_int))))) (psd_one (psd_ret pd_bl)) psd_nil)
        (psd_cons (psd_if (pdt_not (pdt_val (pd_all T rfl (pd_lc (own := [("one", 2)]) (g := (dgName 2)) (t := dYes) rfl sc_are_all_walkers.nd (pdi_tup (pd_var 1)) (blkOk_by (N := ["stair", "thing", "one", "other"]) (sc := defScope s_are_all_walkers) (by decide +kernel)) (fun _ _ _ _ _ => (pdg_name (i := 2) sc_are_all_walkers.nd rfl (Or.inl rfl))) (fun _ _ _ _ _ => ptd_nil) (fun _ _ _ _ _ => (pd_cal c_is_walker hr (pda_cons (pd_var 0) (pda_cons (pd_var 2) pda_nil)))))))) (psd_one (psd_ret pd_bl)) psd_nil)
        (psd_one (psd_ret (pd_all T rfl (pd_lc (own := [("one", 2), ("other", 3)]) (g := (dgTup (dgCons (dgName 2) (dgCons (dgName 3) dgNil)))) (t := dYes) rfl sc_are_all_walkers.nd (pdi_zip (by rfl) T.zip (pd_var 1) (pd_slice (pd_var 1) (pdo_some pd_int) pdo_none)) (blkOk_by (N := ["stair", "thing", "one", "other"]) (sc := defScope s_are_all_walkers) (by decide +kernel)) (fun _ _ _ _ _ => (pdg_tup rfl (pdgs_cons (pdg_name (i := 2) sc_are_all_walkers.nd rfl (Or.inl rfl)) (pdgs_cons (pdg_name (i := 3) sc_are_all_walkers.nd rfl (Or.inl rfl)) pdgs_nil)) (lg_cons rch_name (lg_cons rch_name lg_nil)))) (fun _ _ _ _ _ => ptd_nil) (fun _ _ _ _ _ => (pd_cmp op_ltA od_ltA (pd_ix (pd_var 2) pd_int) (pd_ix (pd_var 3) pd_int) (nomark _))))))))), ?_⟩)
  obtain ⟨q, day, lamps, rfl, hq, hp⟩ := c
  refine at_st (S' := [some (.py (stairPy day lamps)), some (.py q), none, none]) rfl ?_
  cases q with
  | tuple l =>
    have n1 : (1 : Int) ≤ (l.length : Int) ↔ 1 ≤ l.length := by omega
    have n2 : (l.length : Int) ≤ 8 ↔ l.length ≤ 8 := by omega
    unfold walkersB at hp
    walk_at "dl"
    refine ⟨by decide, if_f rfl (if_dec (fun h1 => if_ndec (fun h2 => ?_) (fun h2 => ?_)) (fun h1 => if_t rfl ?_))⟩
    · simp only [decide_eq_false (fun q => h2 (n2.mpr q)), Bool.and_false, Bool.false_and] at hp; exact hp
    · simp only [decide_eq_true (n1.mp h1), decide_eq_true (n2.mp h2), Bool.true_and] at hp
      refine all_lc (post := fun d => dB (dC d) [] fun k => if (!k) = true then post (D.py (.bool false)) else _) (walkerB day) (fun d p => C_iswalker B [D.py (stairPy day lamps), D.py d] p) (by omega) (fun i d hd p hp => ⟨d, day, lamps, rfl, hq l rfl d (List.mem_of_getElem? hd), hp⟩) ?_
      walk_at "dl"
      refine if_nb (fun h3 => ?_) (fun h3 => ?_)
      · simp only [h3, Bool.false_and] at hp; exact hp
      · simp only [h3, Bool.true_and] at hp
        rw [show (some (1 : Int)) = some ((1 : Nat) : Int) from rfl, cut_from]
        refine ⟨fun i acc => acc = ((zipP l (l.drop 1)).map fun d => PyData.bool (pairLt d)).take i, rfl, ?_, ?_⟩
        · rintro i d acc hi rfl
          obtain ⟨x, y, hx, hy, rfl⟩ := zip_get hi
          have hx := List.mem_of_getElem? hx
          have hy := List.mem_of_mem_drop (List.mem_of_getElem? hy)
          obtain ⟨n1, b1, p1, w1, rfl, _⟩ := walkerB_shape (List.all_eq_true.mp h3 x hx)
          obtain ⟨n2, b2, p2, w2, rfl, _⟩ := walkerB_shape (List.all_eq_true.mp h3 y hy)
          walk_at "dl"
          have key : ((zipP l (l.drop 1)).map fun d => PyData.bool (pairLt d))[i]? = some (.bool (decide (n1.cps.toList < n2.cps.toList))) := by rw [List.getElem?_map, hi]; rfl
          refine ⟨?_, (take_more key).symm⟩
          rw [List.length_take]
          have := (List.getElem?_eq_some_iff.mp hi).1
          have hz : (zipP l (l.drop 1)).length ≤ l.length := by unfold zipP; rw [List.length_zipWith]; exact Nat.min_le_left _ _
          omega
        · rintro acc rfl
          refine ⟨(zipP l (l.drop 1)).map pairLt, ?_, ?_⟩
          · rw [List.take_of_length_le (by rw [List.length_map]; exact Nat.le_refl _), List.map_map]; rfl
          · rw [List.all_map]
            show post (D.py (.bool ((zipP l (l.drop 1)).all pairLt)))
            rw [zip_asc]; exact hp
    · simp only [decide_eq_false (fun q => h1 (n1.mpr q)), Bool.and_false, Bool.false_and] at hp; exact hp
  | _ =>
    walk_at "dl"
    exact ⟨by decide, hp⟩
end
/-! ### right ones pass -/
structure OkWs (day : Int) (ws : List Walker) : Prop where
  n1 : 1 ≤ ws.length
  n2 : ws.length ≤ 8
  wk : ∀ w ∈ ws, nameB (.str w.nm) = true ∧ 0 ≤ w.bg ∧ w.bg < day ∧ 0 ≤ w.pc ∧ w.pc ≤ 1000
  asc : ascB (ws.map Walker.py) = true
theorem OkStair.b {day : Int} {lamps : List Int} (h : OkStair day lamps) : stairB (stairPy day lamps) = true := by
  show (withinB (.int day) 1 1000000 && decide (1 ≤ (pInts lamps).length) && decide ((pInts lamps).length ≤ 6) && (pInts lamps).all fun x => withinB x 1 1000000) = true
  have e : (pInts lamps).length = lamps.length := List.length_map ..
  rw [e]
  simp only [withinB, Bool.and_eq_true, decide_eq_true_eq, List.all_eq_true]
  refine ⟨⟨⟨⟨h.d1, h.d2⟩, h.l1⟩, h.l2⟩, fun x hx => ?_⟩
  obtain ⟨n, hn, rfl⟩ := List.mem_map.mp hx
  simp only [Bool.and_eq_true, decide_eq_true_eq]
  exact h.lp n hn
theorem OkWs.b {day : Int} {ws : List Walker} (h : OkWs day ws) : walkersB day (walkersPy ws) = true := by
  show (decide (1 ≤ (ws.map Walker.py).length) && decide ((ws.map Walker.py).length ≤ 8) && (ws.map Walker.py).all (walkerB day) && ascB (ws.map Walker.py)) = true
  rw [List.length_map, h.asc]
  simp only [Bool.and_eq_true, decide_eq_true_eq, List.all_eq_true]
  refine ⟨⟨⟨h.n1, h.n2⟩, fun x hx => ?_⟩, trivial⟩
  obtain ⟨u, hu, rfl⟩ := List.mem_map.mp hx
  obtain ⟨k1, k2, k3, k4, k5⟩ := h.wk u hu
  show (nameB (.str u.nm) && withinB (.int u.bg) 0 (day - 1) && withinB (.int u.pc) 0 1000 && (decide (u.way = "up") || decide (u.way = "down"))) = true
  simp only [withinB, k1, Bool.and_eq_true, decide_eq_true_eq, Bool.or_eq_true]
  refine ⟨⟨⟨trivial, k2, by omega⟩, k4, k5⟩, ?_⟩
  unfold Walker.way
  cases u.up
  · exact .inr rfl
  · exact .inl rfl
theorem name_len {nm : Str} (h : nameB (.str nm) = true) : nm.length ≤ 16000000 := by
  unfold nameB at h
  simp only [Bool.and_eq_true, decide_eq_true_eq] at h
  omega
theorem OkWs.ok {day : Int} {ws : List Walker} (h : OkWs day ws) : wsOk (walkersPy ws) := by
  intro l e x hx
  cases e
  obtain ⟨u, hu, rfl⟩ := List.mem_map.mp hx
  intro a r e
  cases e
  intro s e
  cases e
  exact name_len (h.wk u hu).1
theorem asc_of : ∀ l : List PyData, (∀ (i : Nat) (a b : PyData), l[i]? = some a → l[i + 1]? = some b → nmLt a b = true) → ascB l = true
  | [], _ => rfl
  | [a], _ => rfl
  | a :: b :: l, h => by
    show (nmLt a b && ascB (b :: l)) = true
    rw [h 0 a b rfl rfl, asc_of (b :: l) fun i x y hx hy => h (i + 1) x y hx hy]; rfl
theorem law_names (i : Nat) (nm : Str) (h : lawNames[i]? = some nm) : nameB (.str nm) = true ∧ ∀ nx, lawNames[i + 1]? = some nx → decide (nm.cps.toList < nx.cps.toList) = true := by
  have key : ∀ i : Nat, i < 8 → ∀ nm ∈ lawNames[i]?, nameB (.str nm) = true ∧ ∀ nx ∈ lawNames[i + 1]?, decide (nm.cps.toList < nx.cps.toList) = true := by decide +kernel
  exact key i (List.getElem?_eq_some_iff.mp h).1 nm h
theorem LawWs.ok {day many far : Int} {ws : List Walker} (h : LawWs day many far ws) (hm : many ≤ 8) (hf : far ≤ 1000) : OkWs day ws := by
  refine ⟨h.n1, by have := h.n2; omega, fun u hu => ?_, asc_of _ fun i a b ha hb => ?_⟩
  · obtain ⟨i, hi, rfl⟩ := List.getElem_of_mem hu
    obtain ⟨k1, k2, k3, k4, k5⟩ := h.wk i _ (List.getElem?_eq_getElem hi)
    exact ⟨(law_names i _ k1).1, k2, k3, k4, by omega⟩
  · obtain ⟨u, hu, rfl⟩ := map_get ha
    obtain ⟨v, hv, rfl⟩ := map_get hb
    exact (law_names i _ (h.wk i u hu).1).2 _ (h.wk (i + 1) v hv).1
def C_needstair : Ct := fun _ ds post => ∃ (day : Int) (lamps : List Int), ds = [.py (stairPy day lamps)] ∧ OkStair day lamps ∧ post (.py .none)
def C_needhouse : Ct := fun _ ds post => ∃ (day : Int) (lamps : List Int) (ws : List Walker), ds = [.py (stairPy day lamps), .py (walkersPy ws)] ∧ OkStair day lamps ∧ OkWs day ws ∧ post (.py .none)
def C_needlanding : Ct := fun _ ds post => ∃ (day : Int) (lamps : List Int) (ws : List Walker) (landing : Int), ds = [.py (stairPy day lamps), .py (walkersPy ws), .py (.int landing)] ∧ OkStair day lamps ∧ OkWs day ws ∧ 0 ≤ landing ∧ landing < lamps.length ∧ post (.py .none)
def C_needtick : Ct := fun _ ds post => ∃ (tick last : Int), ds = [.py (.int tick), .py (.int last)] ∧ 0 ≤ tick ∧ tick ≤ last ∧ post (.py .none)
abbrev s_need_stair : Stmt := top 16
theorem sc_need_stair : FnScope ["stair"] ["stair"] (defScope s_need_stair) := ⟨rfl, rfl, rfl, by decide +kernel, rfl, by decide +kernel, by decide +kernel⟩
abbrev s_need_house : Stmt := top 19
theorem sc_need_house : FnScope ["stair", "walkers"] ["stair", "walkers"] (defScope s_need_house) := ⟨rfl, rfl, rfl, by decide +kernel, rfl, by decide +kernel, by decide +kernel⟩
abbrev s_need_landing : Stmt := top 20
theorem sc_need_landing : FnScope ["stair", "walkers", "landing"] ["stair", "walkers", "landing"] (defScope s_need_landing) := ⟨rfl, rfl, rfl, by decide +kernel, rfl, by decide +kernel, by decide +kernel⟩
section
variable {P : Program} {w : World} {K : Kf} {mg : Str → Option Value} {base : Heap}
theorem cal_need_stair (d : Def K mg "need_stair" s_need_stair) (T : Bl mg) (c_is_stair : Cal P w K mg base "is_stair" ["thing"] 2 C_isstair) : Cal P w K mg base "need_stair" ["stair"] 3 C_needstair := by
  refine calD d sc_need_stair (fun B ds post ⟨_, _, e, _⟩ => by subst e; exact ⟨rfl, fun d hd => by simp at hd; rcases hd with rfl; exact free_py⟩) (fun _ _ _ _ _ _ _ us hl => match us, hl with | [_], _ => rfl) (fun f cdv A outer s H E B ds post hr c => ⟨_, (psd_one (psd_if (pdt_not (pdt_val (pd_cal c_is_stair hr (pda_cons (pd_var 0) pda_nil)))) (psd_one psd_never) psd_nil)), ?_⟩)
  obtain ⟨day, lamps, rfl, h1, hp⟩ := c
  refine at_st (S' := [some (.py (stairPy day lamps))]) rfl ?_
  walk_at "dl"
  exact ⟨_, rfl, if_nb (fun h => (Bool.noConfusion ((h1.b).symm.trans h))) (fun _ => hp)⟩
theorem cal_need_house (d : Def K mg "need_house" s_need_house) (T : Bl mg) (c_need_stair : Cal P w K mg base "need_stair" ["stair"] 3 C_needstair) (c_are_all_walkers : Cal P w K mg base "are_all_walkers" ["stair", "thing"] 3 C_areall) : Cal P w K mg base "need_house" ["stair", "walkers"] 4 C_needhouse := by
  refine calD d sc_need_house (fun B ds post ⟨_, _, _, e, _⟩ => by subst e; exact ⟨rfl, fun d hd => by simp at hd; rcases hd with rfl | rfl <;> exact free_py⟩) (fun _ _ _ _ _ _ _ us hl => match us, hl with | [_, _], _ => rfl) (fun f cdv A outer s H E B ds post hr c => ⟨_, (psd_cons (psd_drop (pd_cal c_need_stair hr (pda_cons (pd_var 0) pda_nil)))
        (psd_one (psd_if (pdt_not (pdt_val (pd_cal c_are_all_walkers hr (pda_cons (pd_var 0) (pda_cons (pd_var 1) pda_nil))))) (psd_one psd_never) psd_nil))), ?_⟩)
  obtain ⟨day, lamps, ws, rfl, h1, h2, hp⟩ := c
  refine at_st (S' := [some (.py (stairPy day lamps)), some (.py (walkersPy ws))]) rfl ?_
  walk_at "dl"
  exact ⟨day, lamps, rfl, h1, _, day, lamps, rfl, h2.ok, if_nb (fun h => (Bool.noConfusion ((h2.b).symm.trans h))) (fun _ => hp)⟩
theorem cal_need_landing (d : Def K mg "need_landing" s_need_landing) (T : Bl mg) (c_need_house : Cal P w K mg base "need_house" ["stair", "walkers"] 4 C_needhouse) (c_is_within : Cal P w K mg base "is_within" ["thing", "low", "high"] 1 C_within) : Cal P w K mg base "need_landing" ["stair", "walkers", "landing"] 5 C_needlanding := by
  refine calD d sc_need_landing (fun B ds post ⟨_, _, _, _, e, _⟩ => by subst e; exact ⟨rfl, fun d hd => by simp at hd; rcases hd with rfl | rfl | rfl <;> exact free_py⟩) (fun _ _ _ _ _ _ _ us hl => match us, hl with | [_, _, _], _ => rfl) (fun f cdv A outer s H E B ds post hr c => ⟨_, (psd_cons (psd_drop (pd_cal c_need_house hr (pda_cons (pd_var 0) (pda_cons (pd_var 1) pda_nil))))
        (psd_one (psd_if (pdt_not (pdt_val (pd_cal c_is_within hr (pda_cons (pd_var 2) (pda_cons pd_int (pda_cons (pd_sub (pd_len T (pd_ix (pd_var 0) pd_int)) pd_int) pda_nil)))))) (psd_one psd_never) psd_nil))), ?_⟩)
  obtain ⟨day, lamps, ws, landing, rfl, h1, h2, h3, h4, hp⟩ := c
  refine at_st (S' := [some (.py (stairPy day lamps)), some (.py (walkersPy ws)), some (.py (.int landing))]) rfl ?_
  walk_at "dl"
  refine ⟨day, lamps, ws, rfl, h1, h2, _, _, _, rfl, if_nb (fun h => ?_) (fun _ => hp)⟩
  simp only [withinB, Bool.and_eq_false_iff, decide_eq_false_iff_not, pInts, List.length_map] at h
  omega
end
abbrev s_need_tick : Stmt := top 21
theorem sc_need_tick : FnScope ["tick", "last"] ["tick", "last"] (defScope s_need_tick) := ⟨rfl, rfl, rfl, by decide +kernel, rfl, by decide +kernel, by decide +kernel⟩
section
variable {P : Program} {w : World} {K : Kf} {mg : Str → Option Value} {base : Heap}
theorem cal_need_tick (d : Def K mg "need_tick" s_need_tick) (T : Bl mg) (c_is_within : Cal P w K mg base "is_within" ["thing", "low", "high"] 1 C_within) : Cal P w K mg base "need_tick" ["tick", "last"] 2 C_needtick := by
  refine calD d sc_need_tick (fun B ds post ⟨_, _, e, _⟩ => by subst e; exact ⟨rfl, fun d hd => by simp at hd; rcases hd with rfl | rfl <;> exact free_py⟩) (fun _ _ _ _ _ _ _ us hl => match us, hl with | [_, _], _ => rfl) (fun f cdv A outer s H E B ds post hr c => ⟨_, (psd_one (psd_if (pdt_not (pdt_val (pd_cal c_is_within hr (pda_cons (pd_var 0) (pda_cons pd_int (pda_cons (pd_var 1) pda_nil)))))) (psd_one psd_never) psd_nil)), ?_⟩)
  obtain ⟨tick, last, rfl, h1, h2, hp⟩ := c
  refine at_st (S' := [some (.py (.int tick)), some (.py (.int last))]) rfl ?_
  walk_at "dl"
  refine ⟨_, _, _, rfl, if_nb (fun h => ?_) (fun _ => hp)⟩
  simp only [withinB, Bool.and_eq_false_iff, decide_eq_false_iff_not] at h
  omega
end
def Walker.comes (n : Nat) (day landing tick : Int) (w : Walker) : Bool := decide (w.first n landing ≤ tick) && decide ((tick - w.first n landing) % day = 0)
def comersOf (n : Nat) (day landing : Int) (ws : List Walker) (tick : Int) : List Str := (ws.filter (Walker.comes n day landing tick)).map (·.nm)
abbrev pStrs (l : List Str) : List PyData := l.map PyData.str
/-! ### the table of who comes -/
def lstT (n : Nat) (day landing fin : Int) (ws : List Walker) (t : Int) : List Str := if t < fin then comersOf n day landing ws t else []
def tabV (l : List Str) : Option PyData := if l = [] then none else some (.list (pStrs l))
theorem getV_tab {kvs : List (Key × PyData)} {k : Key} {post : D → Prop} {l : List Str} (h : valD kvs k = tabV l) (hp : post (.py (.list (pStrs l)))) : getV kvs k (.py (.list [])) post := by
  unfold getV
  rw [h]
  unfold tabV
  by_cases e : l = []
  · subst e; rw [if_pos rfl]; exact hp
  · rw [if_neg e]; exact hp
structure Tab (n : Nat) (day landing fin : Int) (ws : List Walker) (kvs : List (Key × PyData)) : Prop where
  val : ∀ t : Int, valD kvs (.inl t) = tabV (lstT n day landing fin ws t)
  ks : ∃ ks : List Int, intKs kvs ks ∧ ks.Nodup
  len : kvs.length ≤ 16000000
def C_comers : Ct := fun _ ds post => ∃ (day : Int) (lamps : List Int) (ws : List Walker) (landing fin : Int), ds = [.py (stairPy day lamps), .py (walkersPy ws), .py (.int landing), .py (.int fin)] ∧ 1 ≤ day ∧ 0 ≤ landing ∧ landing < lamps.length ∧ lamps.length ≤ 6 ∧ ws.length ≤ 8 ∧ (∀ w ∈ ws, 0 ≤ w.bg ∧ 0 ≤ w.pc ∧ w.pc ≤ 1000) ∧ 0 ≤ fin ∧ fin ≤ 1000000 ∧
  ∀ kvs, Tab lamps.length day landing fin ws kvs → post (.dic kvs)
def extT (day first nm tick fin t : Int) : Bool := decide (first ≤ t) && decide (t < tick) && decide (t < fin) && decide ((t - first) % day = 0)
theorem intKs_put {kvs : List (Key × PyData)} {t : Int} {v : PyData} (h : ∃ ks : List Int, intKs kvs ks ∧ ks.Nodup) : ∃ ks : List Int, intKs (putD kvs (.inl t) v) ks ∧ ks.Nodup := by
  obtain ⟨ks, h1, h2⟩ := h
  unfold intKs at h1 ⊢
  rw [putD_keys]
  by_cases hm : (Sum.inl t : Key) ∈ kvs.map (·.1)
  · rw [if_pos hm]; exact ⟨ks, h1, h2⟩
  · rw [if_neg hm]
    refine ⟨ks ++ [t], by rw [h1, List.map_append]; rfl, ?_⟩
    rw [List.nodup_append]
    refine ⟨h2, List.pairwise_singleton _ _, fun a ha b hb e => ?_⟩
    have hb : b = t := List.mem_singleton.mp hb
    subst hb; subst e
    exact hm (by rw [h1]; exact List.mem_map.mpr ⟨a, ha, rfl⟩)
theorem mod_step {day a b : Int} (hd : 1 ≤ day) (h1 : a % day = 0) (h2 : b % day = 0) (h3 : b < a) (h4 : a < b + day) : False := by
  have e1 := Int.emod_add_mul_ediv a day
  have e2 := Int.emod_add_mul_ediv b day
  rw [h1, Int.zero_add] at e1
  rw [h2, Int.zero_add] at e2
  have k1 : day * (b / day) < day * (a / day) := by omega
  have k2 : day * (a / day) < day * (b / day + 1) := by rw [Int.mul_add, Int.mul_one]; omega
  have l1 := Int.lt_of_mul_lt_mul_left k1 (by omega)
  have l2 := Int.lt_of_mul_lt_mul_left k2 (by omega)
  omega
theorem Tab.key {n : Nat} {day landing fin : Int} {ws : List Walker} {kvs : List (Key × PyData)} (h : Tab n day landing fin ws kvs) {ks : List Int} (hk : intKs kvs ks) {t : Int} : t ∈ ks ↔ lstT n day landing fin ws t ≠ [] := by
  have e := valD_mem (Sum.inl t : Key) kvs
  rw [h.val t, hk] at e
  have m : (Sum.inl t : Key) ∈ ks.map Sum.inl ↔ t ∈ ks := ⟨fun z => by obtain ⟨a, ha, e⟩ := List.mem_map.mp z; cases e; exact ha, fun z => List.mem_map.mpr ⟨t, z, rfl⟩⟩
  rw [← m, ← e]
  unfold tabV
  split
  · next h => simp [h]
  · next h => simp [h]
theorem lstT_lt {n : Nat} {day landing fin t : Int} {ws : List Walker} (h : lstT n day landing fin ws t ≠ []) : t < fin ∧ ∃ u ∈ ws, u.comes n day landing t = true := by
  unfold lstT at h
  split at h
  · next h1 =>
    refine ⟨h1, ?_⟩
    unfold comersOf at h
    cases e : ws.filter (Walker.comes n day landing t) with
    | nil => rw [e] at h; exact absurd rfl h
    | cons u r =>
      have hu : u ∈ ws.filter (Walker.comes n day landing t) := by rw [e]; exact List.mem_cons_self ..
      exact ⟨u, (List.mem_filter.mp hu).1, (List.mem_filter.mp hu).2⟩
  · exact absurd rfl h
theorem first_nn {n : Nat} {landing : Int} {u : Walker} (h0 : 0 ≤ landing) (h1 : landing < n) (hb : 0 ≤ u.bg) (hp0 : 0 ≤ u.pc) : 0 ≤ u.first n landing := by
  unfold Walker.first
  split
  · have := Int.mul_nonneg h0 hp0; omega
  · have := Int.mul_nonneg (show 0 ≤ (n : Int) - 1 - landing by omega) hp0; omega
theorem lstT_nn {n : Nat} {day landing fin t : Int} {ws : List Walker} (h0 : 0 ≤ landing) (h1 : landing < n) (hw : ∀ u ∈ ws, 0 ≤ u.bg ∧ 0 ≤ u.pc) (h : lstT n day landing fin ws t ≠ []) : 0 ≤ t ∧ t < fin := by
  obtain ⟨k1, u, hu, k2⟩ := lstT_lt h
  unfold Walker.comes at k2
  simp only [Bool.and_eq_true, decide_eq_true_eq] at k2
  have := first_nn h0 h1 (hw u hu).1 (hw u hu).2
  omega
theorem name_strOk {nm : Str} (h : nameB (.str nm) = true) : PyData.strOk nm = true := by
  unfold nameB at h
  simp only [Bool.and_eq_true, List.all_eq_true, decide_eq_true_eq] at h
  exact strOk_sub h.2
theorem comers_ok {n : Nat} {day landing t : Int} {ws : List Walker} (h : OkWs day ws) : ∀ s ∈ comersOf n day landing ws t, PyData.strOk s = true := fun s hs => by
  obtain ⟨u, hu, rfl⟩ := List.mem_map.mp hs
  exact name_strOk (h.wk u ((List.mem_filter.mp hu).1)).1
theorem comers_far {n : Nat} {day landing late k : Int} {ws : List Walker} (h1 : ∀ u ∈ ws, u.first n landing ≤ late) (hd : 1 ≤ day) (hk : 0 ≤ k) : comersOf n day landing ws (late + day * k) = comersOf n day landing ws late := by
  unfold comersOf
  congr 1
  refine List.filter_congr fun u hu => ?_
  unfold Walker.comes
  have hk2 := Int.mul_nonneg (show 0 ≤ day by omega) hk
  rw [decide_eq_true (h1 u hu), decide_eq_true (show u.first n landing ≤ late + day * k by have := h1 u hu; omega)]
  rw [show late + day * k - u.first n landing = (late - u.first n landing) + day * k by omega, Int.add_mul_emod_self_left]
theorem first_le {n : Nat} {day landing c : Int} {u : Walker} (hn : (n : Int) ≤ 6) (h0 : 0 ≤ landing) (h1 : landing < n) (hb : u.bg < day) (hp0 : 0 ≤ u.pc) (hp : u.pc ≤ c) : u.first n landing ≤ day - 1 + 5 * c := by
  unfold Walker.first
  have key : ∀ s : Int, 0 ≤ s → s ≤ 5 → s * u.pc ≤ 5 * c := fun s a b => Int.le_trans (Int.mul_le_mul_of_nonneg_right b hp0) (Int.mul_le_mul_of_nonneg_left hp (by decide))
  split
  · have := key landing h0 (by omega); omega
  · have := key ((n : Int) - 1 - landing) (by omega) (by omega); omega
/-! ### class Pressing: what stands still -/
def fldsP (day burning : Int) (bs : Bg) (rows : List (Int × Str)) (p d a : Int) : List (Str × PyData) := [("day", .int day), ("burning", .int burning), ("begun", .list (bs.map firstPy)), ("rows", .list (rows.map rowP)), ("presses", .int p), ("days", .int d), ("ahead", .int a)]
section
variable (day burning : Int) (bs : Bg) (rows : List (Int × Str)) (p d a : Int)
theorem lk_day : (fldsP day burning bs rows p d a).lookup ("day" : Str) = some (.int day) := rfl
theorem lk_burning : (fldsP day burning bs rows p d a).lookup ("burning" : Str) = some (.int burning) := rfl
theorem lk_begun : (fldsP day burning bs rows p d a).lookup ("begun" : Str) = some (.list (bs.map firstPy)) := rfl
theorem lk_rows : (fldsP day burning bs rows p d a).lookup ("rows" : Str) = some (.list (rows.map rowP)) := rfl
theorem lk_presses : (fldsP day burning bs rows p d a).lookup ("presses" : Str) = some (.int p) := rfl
theorem lk_days : (fldsP day burning bs rows p d a).lookup ("days" : Str) = some (.int d) := rfl
theorem lk_ahead : (fldsP day burning bs rows p d a).lookup ("ahead" : Str) = some (.int a) := rfl
theorem lk_at : (fldsP day burning bs rows p d a).lookup ("at" : Str) = none := rfl
theorem lk_until : (fldsP day burning bs rows p d a).lookup ("until" : Str) = none := rfl
theorem lk_next : (fldsP day burning bs rows p d a).lookup ("next_visit" : Str) = none := rfl
theorem lk_again : (fldsP day burning bs rows p d a).lookup ("comes_again" : Str) = none := rfl
end
structure PFix (day burning : Int) (bs : Bg) : Prop where
  d1 : 1 ≤ day
  d2 : day ≤ 1000000000
  b1 : 1 ≤ burning
  b2 : burning ≤ 10000000000
  ne : bs ≠ []
  len : bs.length ≤ 1000
  f0 : ∀ q ∈ bs, 0 ≤ q.2 ∧ q.2 ≤ 15000000
structure PRow (day burning : Int) (bs : Bg) (rows : List (Int × Str)) (p d : Int) : Prop where
  fix : PFix day burning bs
  ex : ∃ (i j : Nat) (last : Int), rows = (List.range j).map (vis day burning bs) ∧ Found day burning bs last i j d ∧ p = (j : Int) - i ∧ (∀ q ∈ bs, q.2 ≤ last) ∧ j ≤ 16000000
def C_next (C : Addr) : Ct := fun _ ds post => ∃ (x : Addr) (day burning : Int) (bs : Bg) (rows : List (Int × Str)) (p d a tick : Int), ds = [.ins x C (fldsP day burning bs rows p d a), .py (.int tick)] ∧ PFix day burning bs ∧ post (.py (rowP (nextOf day bs tick)))
def C_at (C : Addr) : Ct := fun _ ds post => ∃ (x : Addr) (day burning : Int) (bs : Bg) (rows : List (Int × Str)) (p d a : Int) (n : Nat), ds = [.ins x C (fldsP day burning bs rows p d a), .py (.int n)] ∧ PRow day burning bs rows p d ∧ (n : Int) < 2 ^ 63 ∧ post (.py (rowP (vis day burning bs n)))
def C_again (C : Addr) : Ct := fun _ ds post => ∃ (x : Addr) (day burning : Int) (bs : Bg) (rows : List (Int × Str)) (p d a : Int) (n : Nat) (q : Nat), ds = [.ins x C (fldsP day burning bs rows p d a), .py (.int n)] ∧ PRow day burning bs rows p d ∧ p = q ∧ (n : Int) < 2 ^ 62 ∧ (∀ r ∈ bs, PyData.strOk r.1 = true) ∧ post (.py (.bool (decide (vis day burning bs (n + q) = shift (day * d) (vis day burning bs n)))))
def C_until (C : Addr) : Ct := fun _ ds post => ∃ (x : Addr) (day burning : Int) (bs : Bg) (rows : List (Int × Str)) (p d a : Int) (tick : Int), ds = [.ins x C (fldsP day burning bs rows p d a), .py (.int tick)] ∧ PRow day burning bs rows p d ∧ 0 ≤ tick ∧ tick < 2 ^ 63 ∧
  ∀ m : Nat, (∀ k, k < m → (vis day burning bs k).1 < tick) → tick ≤ (vis day burning bs m).1 → post (.py (.int m))
abbrev s_m_next_visit : Stmt := inClass (top 27) 1
theorem sc_m_next_visit : FnScope ["self", "tick", "found", "name", "first", "later"] ["self", "tick"] (defScope s_m_next_visit) := ⟨rfl, rfl, rfl, by decide +kernel, rfl, by decide +kernel, by decide +kernel⟩
abbrev s_m_at : Stmt := inClass (top 27) 4
theorem sc_m_at : FnScope ["self", "place", "begin", "rounds", "tick", "name"] ["self", "place"] (defScope s_m_at) := ⟨rfl, rfl, rfl, by decide +kernel, rfl, by decide +kernel, by decide +kernel⟩
abbrev s_m_comes_again : Stmt := inClass (top 27) 3
theorem sc_m_comes_again : FnScope ["self", "place", "tick", "name"] ["self", "place"] (defScope s_m_comes_again) := ⟨rfl, rfl, rfl, by decide +kernel, rfl, by decide +kernel, by decide +kernel⟩
abbrev s_m_until : Stmt := inClass (top 27) 5
theorem sc_m_until : FnScope ["self", "tick", "low", "high", "middle"] ["self", "tick"] (defScope s_m_until) := ⟨rfl, rfl, rfl, by decide +kernel, rfl, by decide +kernel, by decide +kernel⟩
/-- the class as the top has made it -/
structure PTxt (K : Kf) (C : Addr) : Prop where
  tc : Cls K C
  day : NoAttr K C "day"
  burning : NoAttr K C "burning"
  begun : NoAttr K C "begun"
  rows : NoAttr K C "rows"
  presses : NoAttr K C "presses"
  days : NoAttr K C "days"
  ahead : NoAttr K C "ahead"
theorem map_get2 {α β : Type} {f : α → β} {l : List α} {i : Nat} {x : α} (h : l[i]? = some x) : (l.map f)[i]? = some (f x) := by rw [List.getElem?_map, h]; rfl
local macro_rules | `(tactic| walk_at "dl") => `(tactic| simp only [atI_0, atI_1, atI_2, atI_3, stairPy, walkersPy, Walker.py, firstPy, if_true, if_false, List.length_cons, List.length_nil, Nat.reduceAdd, Nat.reduceLeDiff, Nat.zero_add, true_and, and_true, dSeq, dNext, dBrk, dCont, dIfS, dRet, dRetV, dRetVO, dRetO, dSetO, List.map_cons, List.map_nil, dSet, dSetL, dSetD, dApp, dDrop, dPar, dPar3, dParL, dPut, dWhile, dFor, dAsg, dVar, dC, dOp, dUn, dB, dAnd, dOr, dNot, dAndV, dOrV, dNotV, dIf, dNil, dCons, dChain, dTup, dLst, dCB, dCall, dSl, dNo, dPart, dLc, dYes, dDix, dDget_eq, dDin, diL, diT, diR1, diR2, diS, diZ, dgName, dgNil, dgCons, dgTup, fI, fIc, fAdd, fMul, fEq, fNe, fLt, fLe, fGt, fGe, fLtA, fSub, fFdiv, fMod, fIsN, fNotN, fIsB, fNotB, fIx, fSl, fIn, fInS, fDix, cLen, cInt, cMax2, cMin2, cSum, cMaxL, cMinL, cAll, cAny, cTuple, cList, cSorted, cSortD, dRg, dZero, cIsi, cMinP, dFld, dMet, dMake, lk_day, lk_burning, lk_begun, lk_rows, lk_presses, lk_days, lk_ahead, lk_at, lk_until, lk_next, lk_again, D.py?, D.items, D.lsti, D.ty, D.kvs, keyD, pys, fre, isNonD, wipeS, Option.map, List.set, List.getElem?_cons_succ, List.getElem?_cons_zero])
section
variable {P : Program} {w : World} {K : Kf} {mg : Str → Option Value} {base : Heap} {C : Addr}
theorem cal_next (d : DefM K C "Pressing" "next_visit" s_m_next_visit) (T : Bl mg) (X : PTxt K C) : CalM P w K mg base C "next_visit" ["self", "tick"] 1 (C_next C) := by
  have tc := X.tc; have n_day := X.day; have n_begun := X.begun
  refine calM d sc_m_next_visit (fun B ds post ⟨_, _, _, _, _, _, _, _, _, e, _⟩ => by subst e; exact ⟨rfl, fun d hd => by simp at hd; rcases hd with rfl | rfl <;> first | exact free_py | exact free_ins⟩) (fun _ _ _ _ _ _ _ us hl => match us, hl with | [_, _], _ => rfl) (fun f cdv A outer s H E B ds post hr c => ⟨_, (psd_cons (psd_setL (i := 2) sc_m_next_visit.nd rfl (Or.inl rfl))
        (psd_cons (psd_for PassesOwn.never rfl (pdi_list (pd_fld tc n_begun (pd_var 0))) (pdg_tup rfl (pdgs_cons (pdg_name (i := 3) sc_m_next_visit.nd rfl (Or.inl rfl)) (pdgs_cons (pdg_name (i := 4) sc_m_next_visit.nd rfl (Or.inl rfl)) pdgs_nil)) (lg_cons rch_name (lg_cons rch_name lg_nil))) (psd_cons (psd_set (i := 5) sc_m_next_visit.nd rfl (Or.inl rfl) (pd_max2 T rfl pd_int (pd_sub (pd_var 1) (pd_var 4))))
        (psd_one (psd_app (i := 2) rfl (Or.inl rfl) (by decide) (by decide) (pd_tup (pda_cons (pd_add (pd_var 4) (pd_mul (pd_fdiv (pd_sub (pd_add (pd_var 5) (pd_fld tc n_day (pd_var 0))) pd_int) (pd_fld tc n_day (pd_var 0))) (pd_fld tc n_day (pd_var 0)))) (pda_cons (pd_var 3) pda_nil))) (fun ho ha => pe_bm PySem.F.plainAttrs_list PySem.F.slot_list_append PySem.F.type_list_append mt_append ho ha) (by rfl) (by rfl)))))
        (psd_one (psd_ret (pd_minP T rfl hr.units (pd_var 2)))))), ?_⟩)
  obtain ⟨x, day, burning, bs, rows, p, dd, a, tick, rfl, F, hp⟩ := c
  have d1 := F.d1; have d2 := F.d2; have hlen := F.len
  refine at_st (S' := [some (.ins x C (fldsP day burning bs rows p dd a)), some (.py (.int tick)), none, none, none, none]) rfl ?_
  walk_at "dl"
  refine ⟨fun i S' => ∃ (x1 x2 x3 : Option D), S' = [some (.ins x C (fldsP day burning bs rows p dd a)), some (.py (.int tick)), some (.ol (((cands day tick bs).take i).map rowP)), x1, x2, x3], ⟨_, _, _, rfl⟩, ?_, ?_⟩
  · rintro i d S' hi ⟨x1, x2, x3, rfl⟩
    obtain ⟨⟨nm, f⟩, hb, rfl⟩ := map_get hi
    have key : (cands day tick bs)[i]? = some (cand day tick f, nm) := map_get2 (f := fun p : Str × Int => (cand day tick p.2, p.1)) hb
    have hi2 := (List.getElem?_eq_some_iff.mp hb).1
    walk_at "dl"
    have step : ((cands day tick bs).take (i + 1)).map rowP = ((cands day tick bs).take i).map rowP ++ [PyData.tuple [.int (f + ((if tick - f > 0 then tick - f else 0) + day - 1) / day * day), .str nm]] := by rw [take_more key, List.map_append]; rfl
    rw [step]
    refine ⟨⟨by omega, by omega⟩, cmul_r ⟨by omega, by omega⟩, ?_, _, _, _, rfl⟩
    rw [List.length_map, List.length_take]; omega
  · rintro S' ⟨x1, x2, x3, rfl⟩
    have hcl : (bs.map firstPy).length = (cands day tick bs).length := by unfold cands; rw [List.length_map, List.length_map]
    walk_at "dl"
    rw [hcl, List.take_length]
    obtain ⟨k1, k2⟩ := next_mem F.ne tick (day := day)
    refine ⟨_, rfl, List.length_pos_of_mem k1, fun q hq hmin => ?_⟩
    rw [next_uniq hq hmin]; exact hp
theorem at_place {day burning : Int} {bs : Bg} {last d : Int} {i j : Nat} (F : PFix day burning bs) (G : Found day burning bs last i j d) (hl : ∀ q ∈ bs, q.2 ≤ last) {n : Nat} (hn : j ≤ n) : ∃ (r m : Nat), ((n : Int) - ((j : Int) - ((j : Int) - i))) / ((j : Int) - i) = (r : Int) ∧ (n : Int) - (r : Int) * ((j : Int) - i) = (m : Int) ∧ m < j ∧ vis day burning bs n = shift (day * (d * r)) (vis day burning bs m) ∧ r ≤ n := by
  have hlt := G.lt
  refine ⟨(n - i) / (j - i), n - (n - i) / (j - i) * (j - i), ?_, ?_, ?_, ?_, ?_⟩
  · rw [show (n : Int) - ((j : Int) - ((j : Int) - i)) = ((n - i : Nat) : Int) by omega, show (j : Int) - i = ((j - i : Nat) : Int) by omega, ← Int.natCast_ediv]
  · have := Nat.div_mul_le_self (n - i) (j - i)
    rw [show (j : Int) - i = ((j - i : Nat) : Int) by omega, ← Int.natCast_mul]; omega
  · have h1 := Nat.div_add_mod (n - i) (j - i)
    have h2 := Nat.mod_lt (n - i) (show 0 < j - i by omega)
    rw [Nat.mul_comm] at h1; omega
  · have h1 := Nat.div_add_mod (n - i) (j - i)
    rw [Nat.mul_comm] at h1
    have e : n = (n - (n - i) / (j - i) * (j - i)) + (n - i) / (j - i) * (j - i) := by omega
    have := found_rounds F.d1 F.b1 F.ne hl G (k := n - (n - i) / (j - i) * (j - i)) (by omega) ((n - i) / (j - i))
    rw [← e] at this
    rw [this]
  · have := Nat.div_le_self (n - i) (j - i); omega
theorem cal_at (d : DefM K C "Pressing" "at" s_m_at) (T : Bl mg) (X : PTxt K C) : CalM P w K mg base C "at" ["self", "place"] 1 (C_at C) := by
  have tc := X.tc; have n_day := X.day; have n_rows := X.rows; have n_presses := X.presses; have n_days := X.days
  refine calM d sc_m_at (fun B ds post ⟨_, _, _, _, _, _, _, _, _, e, _⟩ => by subst e; exact ⟨rfl, fun d hd => by simp at hd; rcases hd with rfl | rfl <;> first | exact free_py | exact free_ins⟩) (fun _ _ _ _ _ _ _ us hl => match us, hl with | [_, _], _ => rfl) (fun f cdv A outer s H E B ds post hr c => ⟨_, (psd_cons (psd_if (pdt_cmp op_ltA od_ltA (pd_var 1) (pd_len T (pd_fld tc n_rows (pd_var 0))) (nomark _)) (psd_one (psd_ret (pd_ix (pd_fld tc n_rows (pd_var 0)) (pd_var 1)))) psd_nil)
        (psd_cons (psd_set (i := 2) sc_m_at.nd rfl (Or.inl rfl) (pd_sub (pd_len T (pd_fld tc n_rows (pd_var 0))) (pd_fld tc n_presses (pd_var 0))))
        (psd_cons (psd_set (i := 3) sc_m_at.nd rfl (Or.inl rfl) (pd_fdiv (pd_sub (pd_var 1) (pd_var 2)) (pd_fld tc n_presses (pd_var 0))))
        (psd_cons (psd_asgG (pd_ix (pd_fld tc n_rows (pd_var 0)) (pd_sub (pd_var 1) (pd_mul (pd_var 3) (pd_fld tc n_presses (pd_var 0))))) (pdg_tup rfl (pdgs_cons (pdg_name (i := 4) sc_m_at.nd rfl (Or.inl rfl)) (pdgs_cons (pdg_name (i := 5) sc_m_at.nd rfl (Or.inl rfl)) pdgs_nil)) (lg_cons rch_name (lg_cons rch_name lg_nil))))
        (psd_one (psd_ret (pd_tup (pda_cons (pd_add (pd_var 4) (pd_mul (pd_mul (pd_var 3) (pd_fld tc n_days (pd_var 0))) (pd_fld tc n_day (pd_var 0)))) (pda_cons (pd_var 5) pda_nil))))))))), ?_⟩)
  obtain ⟨x, day, burning, bs, rows, p, dd, a, n, rfl, ⟨F, i, j, last, rfl, G, rfl, hl, hj⟩, hn, hp⟩ := c
  have d1 := F.d1; have d2 := F.d2; have hlt := G.lt
  have hrl : (((List.range j).map (vis day burning bs)).map rowP).length = j := by rw [List.length_map, List.length_map, List.length_range]
  have hrow : ∀ m : Nat, m < j → atI (((List.range j).map (vis day burning bs)).map rowP) (m : Int) = some (rowP (vis day burning bs m)) := fun m hm => atI_nat (by rw [List.getElem?_map, List.getElem?_map, List.getElem?_range hm]; rfl)
  refine at_st (S' := [some (.ins x C (fldsP day burning bs ((List.range j).map (vis day burning bs)) ((j : Int) - i) dd a)), some (.py (.int n)), none, none, none, none]) rfl ?_
  walk_at "dl"
  rw [hrl]
  refine if_dec (fun h => ?_) (fun h => ?_)
  · rw [hrow n (by omega)]
    exact hp
  · obtain ⟨r, m, e1, e2, hm, e3, hrn⟩ := at_place F G hl (n := n) (by omega)
    rw [e1]
    refine ⟨⟨by omega, by omega⟩, cmul_r ⟨by omega, by omega⟩, ?_⟩
    rw [e2, hrow m hm]
    unfold rowP
    walk_at "dl"
    refine ⟨cmul_l ⟨by omega, by omega⟩, cmul_r ⟨by omega, by omega⟩, ?_⟩
    rw [e3] at hp
    have : (vis day burning bs m).1 + (r : Int) * dd * day = (shift (day * (dd * r)) (vis day burning bs m)).1 := by
      show _ = (vis day burning bs m).1 + day * (dd * r)
      rw [Int.mul_comm day, Int.mul_comm dd]
    rw [this]
    exact hp
theorem row_strOk {day : Int} {bs : Bg} (h : ∀ r ∈ bs, PyData.strOk r.1 = true) (hne : bs ≠ []) (t : Int) : PyData.strOk (nextOf day bs t).2 = true := by
  obtain ⟨p, hp, e⟩ := List.mem_map.mp (next_mem (day := day) hne t).1
  rw [← e]; exact h p hp
theorem vis_strOk {day burning : Int} {bs : Bg} (h : ∀ r ∈ bs, PyData.strOk r.1 = true) (hne : bs ≠ []) (n : Nat) : PyData.strOk (vis day burning bs n).2 = true := by
  obtain ⟨t, e⟩ := vis_form (day := day) (burning := burning) (bs := bs) n
  rw [e]; exact row_strOk h hne t
theorem row_shp {v : Int × Str} {k : Nat} (h : PyData.strOk v.2 = true) : Shp (k + 1) (rowP v) := .tuple fun x hx => by
  simp only [List.mem_cons, List.mem_nil_iff, or_false] at hx
  rcases hx with rfl | rfl
  · exact .int _
  · exact .str h
theorem row_eqv {v u : Int × Str} : PyData.eqv (rowP v) (rowP u) = decide (v = u) := by
  unfold rowP
  simp only [PyData.eqv, PyData.eqvAll, Bool.and_true]
  by_cases h : v = u
  · subst h; simp
  · rw [decide_eq_false h]
    by_cases h1 : v.1 = u.1
    · have h2 : ¬ v.2 = u.2 := fun z => h (Prod.ext h1 z)
      simp [h2]
    · simp [h1]
theorem cal_again (d : DefM K C "Pressing" "comes_again" s_m_comes_again) (T : Bl mg) (X : PTxt K C) (m_at : CalM P w K mg base C "at" ["self", "place"] 1 (C_at C)) : CalM P w K mg base C "comes_again" ["self", "place"] 2 (C_again C) := by
  have tc := X.tc; have n_day := X.day; have n_presses := X.presses; have n_days := X.days
  refine calM d sc_m_comes_again (fun B ds post ⟨_, _, _, _, _, _, _, _, _, _, e, _⟩ => by subst e; exact ⟨rfl, fun d hd => by simp at hd; rcases hd with rfl | rfl <;> first | exact free_py | exact free_ins⟩) (fun _ _ _ _ _ _ _ us hl => match us, hl with | [_, _], _ => rfl) (fun f cdv A outer s H E B ds post hr c => ⟨_, (psd_cons (psd_asgG (pd_met tc m_at hr (pd_var 0) (pda_cons (pd_var 1) pda_nil)) (pdg_tup rfl (pdgs_cons (pdg_name (i := 2) sc_m_comes_again.nd rfl (Or.inl rfl)) (pdgs_cons (pdg_name (i := 3) sc_m_comes_again.nd rfl (Or.inl rfl)) pdgs_nil)) (lg_cons rch_name (lg_cons rch_name lg_nil))))
        (psd_one (psd_ret (pd_cmp (op_eqA hr.units) od_eq (pd_met tc m_at hr (pd_var 0) (pda_cons (pd_add (pd_var 1) (pd_fld tc n_presses (pd_var 0))) pda_nil)) (pd_tup (pda_cons (pd_add (pd_var 2) (pd_mul (pd_fld tc n_days (pd_var 0)) (pd_fld tc n_day (pd_var 0)))) (pda_cons (pd_var 3) pda_nil))) (nomark _))))), ?_⟩)
  obtain ⟨x, day, burning, bs, rows, p, dd, a, n, q, rfl, R, rfl, hn, hs, hp⟩ := c
  have d1 := R.fix.d1; have d2 := R.fix.d2
  have hq : (q : Int) ≤ 16000000 := by obtain ⟨i, j, last, _, _, e, _, hj⟩ := R.ex; omega
  refine at_st (S' := [some (.ins x C (fldsP day burning bs rows q dd a)), some (.py (.int n)), none, none]) rfl ?_
  walk_at "dl"
  refine ⟨x, day, burning, bs, rows, _, _, _, n, rfl, R, by omega, ?_⟩
  unfold rowP
  walk_at "dl"
  refine ⟨x, day, burning, bs, rows, _, _, _, n + q, by push_cast; rfl, R, by omega, cmul_r ⟨by omega, by omega⟩, ?_⟩
  have e : (PyData.tuple [.int ((vis day burning bs n).1 + dd * day), .str (vis day burning bs n).2]) = rowP (shift (day * dd) (vis day burning bs n)) := by
    unfold rowP shift; rw [Int.mul_comm dd]
  walk_at "dl"
  rw [e]
  show SeqAt.shaped (rowP (vis day burning bs (n + q))) = true ∧ SeqAt.shaped (rowP (shift (day * dd) (vis day burning bs n))) = true ∧ post (D.py (.bool (PyData.eqv (rowP (vis day burning bs (n + q))) (rowP (shift (day * dd) (vis day burning bs n))))))
  rw [row_eqv]
  exact ⟨(row_shp (k := 0) (vis_strOk hs R.fix.ne _)).ok, (row_shp (k := 0) (v := shift (day * dd) (vis day burning bs n)) (vis_strOk hs R.fix.ne _)).ok, hp⟩
theorem cal_until (d : DefM K C "Pressing" "until" s_m_until) (T : Bl mg) (X : PTxt K C) (m_at : CalM P w K mg base C "at" ["self", "place"] 1 (C_at C)) : CalM P w K mg base C "until" ["self", "tick"] 2 (C_until C) := by
  have tc := X.tc
  refine calM d sc_m_until (fun B ds post ⟨_, _, _, _, _, _, _, _, _, e, _⟩ => by subst e; exact ⟨rfl, fun d hd => by simp at hd; rcases hd with rfl | rfl <;> first | exact free_py | exact free_ins⟩) (fun _ _ _ _ _ _ _ us hl => match us, hl with | [_, _], _ => rfl) (fun f cdv A outer s H E B ds post hr c => ⟨_, (psd_cons (psd_par (i := 2) (j := 3) rfl sc_m_until.nd rfl rfl (by decide) rfl rfl pd_int (pd_var 1) (by rfl))
        (psd_cons (psd_while PassesOwn.never (pdt_cmp op_ltA od_ltA (pd_var 2) (pd_var 3) (nomark _)) (psd_cons (psd_set (i := 4) sc_m_until.nd rfl (Or.inl rfl) (pd_fdiv (pd_add (pd_var 2) (pd_var 3)) pd_int))
        (psd_one (psd_if (pdt_cmp op_ltA od_ltA (pd_ix (pd_met tc m_at hr (pd_var 0) (pda_cons (pd_var 4) pda_nil)) pd_int) (pd_var 1) (nomark _)) (psd_one (psd_set (i := 2) sc_m_until.nd rfl (Or.inl rfl) (pd_add (pd_var 4) pd_int))) (psd_one (psd_set (i := 3) sc_m_until.nd rfl (Or.inl rfl) (pd_var 4)))))))
        (psd_one (psd_retV 2)))), ?_⟩)
  obtain ⟨x, day, burning, bs, rows, p, dd, a, tick, rfl, R, h0, h1, hp⟩ := c
  have F := R.fix
  refine at_st (S' := [some (.ins x C (fldsP day burning bs rows p dd a)), some (.py (.int tick)), none, none, none]) rfl ?_
  walk_at "dl"
  refine ⟨fun m S' => ∃ (lo hi : Nat) (x4 : Option D), S' = [some (.ins x C (fldsP day burning bs rows p dd a)), some (.py (.int tick)), some (.py (.int lo)), some (.py (.int hi)), x4] ∧ lo ≤ hi ∧ (hi : Int) ≤ tick ∧ (∀ k, k < lo → (vis day burning bs k).1 < tick) ∧ tick ≤ (vis day burning bs hi).1 ∧ m = hi - lo,
    ⟨_, 0, tick.toNat, _, by rw [Int.toNat_of_nonneg h0]; rfl, Nat.zero_le _, by omega, fun k hk => by omega, ?_, rfl⟩, ?_⟩
  · have := vis_nn F.d1 F.b1 F.ne (burning := burning) tick.toNat; omega
  · rintro m S' ⟨lo, hi, x4, rfl, k1, k2, k3, k4, rfl⟩
    walk_at "dl"
    refine if_dec (fun h => ?_) (fun h => ?_)
    · have e : ((lo : Int) + hi) / 2 = (((lo + hi) / 2 : Nat) : Int) := by omega
      rw [e]
      refine ⟨⟨by decide, by decide⟩, x, day, burning, bs, rows, _, _, _, (lo + hi) / 2, rfl, R, by omega, ?_⟩
      unfold rowP
      walk_at "dl"
      refine if_dec (fun h => ?_) (fun h => ?_)
      · refine ⟨_, ?_, (lo + hi) / 2 + 1, hi, _, by push_cast; rfl, by omega, k2, fun k hk => ?_, k4, rfl⟩
        · omega
        · have := vis_le F.d1 F.b1 F.ne (burning := burning) (show k ≤ (lo + hi) / 2 by omega); omega
      · refine ⟨_, ?_, lo, (lo + hi) / 2, _, rfl, by omega, by omega, k3, by omega, rfl⟩
        omega
    · exact hp lo k3 (by rw [show lo = hi by omega]; exact k4)
end
/-! ### the maker's own work -/
def fldsV (day burning : Int) (bV rV : V) (p d a : Int) : List (Str × V) := [("day", .int day), ("burning", .int burning), ("begun", bV), ("rows", rV), ("presses", .int p), ("days", .int d), ("ahead", .int a)]
theorem kv_flds {K : Kf} {G : Hp} {vs : List (Str × V)} {day burning : Int} {bs : Bg} {rows : List (Int × Str)} {p d a : Int} (h : KvR K G vs (fldsP day burning bs rows p d a)) : ∃ bV rV, vs = fldsV day burning bV rV p d a ∧ Dt K G bV (.list (bs.map firstPy)) ∧ Dt K G rV (.list (rows.map rowP)) := by
  unfold fldsP at h
  cases h with
  | cons h1 h => cases h with
  | cons h2 h => cases h with
  | cons h3 h => cases h with
  | cons h4 h => cases h with
  | cons h5 h => cases h with
  | cons h6 h => cases h with
  | cons h7 h =>
  cases h
  rename_i q1 q2 q3 q4 q5 q6 q7
  obtain ⟨k1, v1⟩ := q1; obtain ⟨k2, v2⟩ := q2; obtain ⟨k3, v3⟩ := q3; obtain ⟨k4, v4⟩ := q4; obtain ⟨k5, v5⟩ := q5; obtain ⟨k6, v6⟩ := q6; obtain ⟨k7, v7⟩ := q7
  obtain ⟨rfl, d1⟩ := h1; obtain ⟨rfl, d2⟩ := h2; obtain ⟨rfl, d3⟩ := h3; obtain ⟨rfl, d4⟩ := h4; obtain ⟨rfl, d5⟩ := h5; obtain ⟨rfl, d6⟩ := h6; obtain ⟨rfl, d7⟩ := h7
  cases d1; cases d2; cases d5; cases d6; cases d7
  exact ⟨_, _, rfl, d3, d4⟩
theorem flds_kv {K : Kf} {G : Hp} {day burning : Int} {bs : Bg} {rows : List (Int × Str)} {p d a : Int} {bV rV : V} (h1 : Dt K G bV (.list (bs.map firstPy))) (h2 : Dt K G rV (.list (rows.map rowP))) : KvR K G (fldsV day burning bV rV p d a) (fldsP day burning bs rows p d a) :=
  .cons ⟨rfl, .int _⟩ (.cons ⟨rfl, .int _⟩ (.cons ⟨rfl, h1⟩ (.cons ⟨rfl, h2⟩ (.cons ⟨rfl, .int _⟩ (.cons ⟨rfl, .int _⟩ (.cons ⟨rfl, .int _⟩ .nil))))))
theorem lv_rows {day burning : Int} {bV rV : V} {p d a : Int} : (fldsV day burning bV rV p d a).lookup ("rows" : Str) = some rV := rfl
theorem lv_begun {day burning : Int} {bV rV : V} {p d a : Int} : (fldsV day burning bV rV p d a).lookup ("begun" : Str) = some bV := rfl
theorem rows_flat {rows : List (Int × Str)} : ∀ q ∈ rows.map rowP, flat1 q = true := fun q hq => by
  obtain ⟨x, _, rfl⟩ := List.mem_map.mp hq; rfl
/-- the object of the work, laid open -/
theorem WSt.open {K : Kf} {p r C : Addr} {Ge He : Hp} {S : Slots} {σ : L2.St} {G H : Hp} {day burning : Int} {bs : Bg} {rows : List (Int × Str)} {pr dd a : Int} (w : WSt K p r C Ge He (.list (bs.map firstPy)) S σ G H) (h0 : S[0]? = some (some (.ins p C (fldsP day burning bs rows pr dd a)))) :
    σ[0]? = some (some (.ref p)) ∧ ∃ dx bV rv, G p = some (.ins C dx (fldsV day burning bV (.ref r) pr dd a)) ∧ Dt K Ge bV (.list (bs.map firstPy)) ∧ G r = some (.lst rv) ∧ DtAll K G rv (rows.map rowP) := by
  obtain ⟨v, k1, ⟨dx, vs, rfl, g1, g2⟩, _⟩ := w.sl.slot 0 _ h0
  obtain ⟨bV, rV, rfl, b1, b2⟩ := kv_flds g2
  obtain ⟨dx', vs', b, e1, e2, e3, e4⟩ := w.ob
  rw [g1] at e1; cases e1
  rw [lv_rows] at e2; cases e2
  rw [lv_begun] at e3; cases e3
  cases b2 with
  | lst c1 c2 => exact ⟨k1, dx, bV, _, g1, e4, c1, c2⟩
def Lites (S : Slots) : Prop := ∀ (i : Nat) (d : D), 0 < i → S[i]? = some (some d) → lite d
section
variable {X : Cx} {p r C : Addr} {Ge He : Hp} {day burning : Int} {bs : Bg}
def dAppR (p C : Addr) (day burning : Int) (bs : Bg) (e : DE) : DS := fun E S => ∃ (rows : List (Int × Str)) (pr dd a : Int), S[0]? = some (some (.ins p C (fldsP day burning bs rows pr dd a))) ∧ rows.length < 16000000 ∧ Lites S ∧ e S fun d => ∃ q : Int × Str, d = .py (rowP q) ∧
  E.nx (S.set 0 (some (.ins p C (fldsP day burning bs (rows ++ [q]) pr dd a))))
theorem w_app {e : Expr} {de : DE} {p1 p2 apos cpos pos : Pos} (hp : Ge p = none) (hr : Ge r = none) (tc : Cls X.K C) (n_rows : NoAttr X.K C "rows") (hN : X.N[0]? = some ("self" : Str)) (hv : Vis X.env.scope ("self" : Str)) (he : PD X [] He e de)
    (hbb : attributeBase (.Name "self" p1) "rows" X.env (eval (.Name "self" p1) X.env) = eval (.Name "self" p1) X.env)
    (hbm : ∀ {to : TE} {t : TA}, PE X (.Attribute (.Name "self" p1) "rows" p2) to → PA X [e] t → PE X (.Call (.Attribute (.Attribute (.Name "self" p1) "rows" p2) "append" apos) [e] [] cpos) (tBM X.K "list" rAppend to t)) (hs : swapsWith (.Call (.Attribute (.Attribute (.Name "self" p1) "rows" p2) "append" apos) [e] [] cpos) none pos.line X.env = pure false)
    (hst : starEach [e] X.env = (false, eval e X.env) :: starEach [] X.env) : PS X (.Expr (.Call (.Attribute (.Attribute (.Name "self" p1) "rows" p2) "append" apos) [e] [] cpos) pos) (lW X.K p r C Ge He (.list (bs.map firstPy)) (dAppR p C day burning bs de)) :=
  PSmono (ps_expr (hbm (pe_fld (pe_var hN hv (by decide) (by decide)) hbb) (pa_cons he pa_nil hst)) hs) fun D σ H ⟨E, er, ⟨G, S, w, rows, pr, dd, a, h0, hz, hl, hd⟩, q1, q3, q4⟩ => by
  obtain ⟨k0, dx, bV, rv, e1, e2, e3, e4⟩ := w.open h0
  have wd := w.sl.wd
  refine ⟨_, k0, p, C, dx, _, _, rfl, wd.sub _ _ e1, tc, n_rows, lv_rows, Or.inl ⟨rfl, _, SqL.of (wd.sub _ _ e3)⟩, G, S, _, w.sl, hd, fun v d G' H' s rr z => ?_⟩
  obtain ⟨q, rfl, hn⟩ := z
  have w' := w.next (w.sl.step s) (w.old.trans s.toOld)
  have e1' := s.up _ _ e1
  have e3' := s.up _ _ e3
  have e4' := DtAll.up s.up e4
  have npr : p ≠ r := fun z => by rw [z] at e1; rw [e1] at e3; cases e3
  have hrl : rv.length = rows.length := by rw [e4.length, List.length_map]
  refine ⟨r, rv, v, rfl, rfl, s.wd.sub _ _ e3', szL (by omega), q1 _ _ ⟨upd G' r (.lst (rv ++ [v])), _, w'.write hp hr (.inr rfl) e3' (noTup_lst e3') h0 hl ?_ ?_ ⟨_, upd_same⟩, hn⟩⟩
  · refine ⟨dx, fldsV day burning bV (.ref r) pr dd a, by rw [upd_ne npr]; exact e1', flds_kv (Dt.up (fun b o h => by rw [upd_ne (ne_of_none h hr)]; exact w'.up _ _ h) e2) (.lst upd_same ?_)⟩
    · rw [List.map_append]
      exact (lite_dta (noTup_lst e3') e4' rows_flat).append (.one (lite_dt rr rfl (noTup_lst e3')))
  · exact ⟨dx, _, bV, by rw [upd_ne npr]; exact e1', lv_rows, lv_begun, e2⟩
/-- self.f = e, f a number -/
def dSetN (p C : Addr) (day burning : Int) (bs : Bg) (F : Int → Int → Int → Int → Int × Int × Int) (e : DE) : DS := fun E S => ∃ (rows : List (Int × Str)) (pr dd a : Int), S[0]? = some (some (.ins p C (fldsP day burning bs rows pr dd a))) ∧ Lites S ∧ e S fun d => ∃ z : Int, d = .py (.int z) ∧
  E.nx (S.set 0 (some (.ins p C (fldsP day burning bs rows (F z pr dd a).1 (F z pr dd a).2.1 (F z pr dd a).2.2))))
theorem WSt.store {K : Kf} {S : Slots} {σ : L2.St} {G H : Hp} {rows : List (Int × Str)} {pr dd a pr' dd' a' : Int} (w : WSt K p r C Ge He (.list (bs.map firstPy)) S σ G H) (hp : Ge p = none) (hr : Ge r = none) (h0 : S[0]? = some (some (.ins p C (fldsP day burning bs rows pr dd a)))) (hl : Lites S) {dx : Addr} {bV : V} {rv : List V}
    (e1 : G p = some (.ins C dx (fldsV day burning bV (.ref r) pr dd a))) (e2 : Dt K Ge bV (.list (bs.map firstPy))) (e3 : G r = some (.lst rv)) (e4 : DtAll K G rv (rows.map rowP)) :
    WSt K p r C Ge He (.list (bs.map firstPy)) (S.set 0 (some (.ins p C (fldsP day burning bs rows pr' dd' a')))) σ (upd G p (.ins C dx (fldsV day burning bV (.ref r) pr' dd' a'))) (upd H p (.ins C dx (fldsV day burning bV (.ref r) pr' dd' a'))) := by
  have npr : r ≠ p := fun z => by rw [z, e1] at e3; cases e3
  refine w.write hp hr (.inl rfl) e1 (noTup_ins e1) h0 hl ⟨dx, _, upd_same, flds_kv (Dt.up (fun b o h => by rw [upd_ne (ne_of_none h hp)]; exact w.up _ _ h) e2) (.lst (by rw [upd_ne npr]; exact e3) (lite_dta (noTup_ins e1) e4 rows_flat))⟩ ⟨dx, _, bV, upd_same, lv_rows, lv_begun, e2⟩ ⟨rv, by rw [upd_ne npr]; exact e3⟩
theorem w_fld {f : Str} {F : Int → Int → Int → Int → Int × Int × Int} {e : Expr} {de : DE} {p1 p2 pos : Pos} (hp : Ge p = none) (hr : Ge r = none) (tc : Cls X.K C) (n_f : NoAttr X.K C f) (hput : ∀ (bV rV : V) (pr dd a z : Int), putF f (.int z) (fldsV day burning bV rV pr dd a) = fldsV day burning bV rV (F z pr dd a).1 (F z pr dd a).2.1 (F z pr dd a).2.2)
    (hN : X.N[0]? = some ("self" : Str)) (hv : Vis X.env.scope ("self" : Str)) (he : PD X [] He e de) (hs : swapsWith e (some (.Attribute (.Name "self" p1) f p2)) pos.line X.env = pure false := by rfl) :
    PS X (.Assign [.Attribute (.Name "self" p1) f p2] e pos) (lW X.K p r C Ge He (.list (bs.map firstPy)) (dSetN p C day burning bs F de)) :=
  PSmono (ps_fld (pe_var hN hv (by decide) (by decide)) he hs) fun D σ H ⟨E, er, ⟨G, S, w, rows, pr, dd, a, h0, hl, hd⟩, q1, q3, q4⟩ => by
  refine ⟨G, S, _, w.sl, hd, fun v d G' H' s rr z => ?_⟩
  obtain ⟨z, rfl, hn⟩ := z
  cases rr
  have w' := w.next (w.sl.step s) (w.old.trans s.toOld)
  obtain ⟨k0, dx, bV, rv, e1, e2, e3, e4⟩ := w'.open h0
  have st := w'.store hp hr h0 hl e1 e2 e3 e4 (pr' := (F z pr dd a).1) (dd' := (F z pr dd a).2.1) (a' := (F z pr dd a).2.2)
  rw [← hput] at st
  exact ⟨_, k0, p, C, dx, _, rfl, s.wd.sub _ _ e1, tc, n_f, (show 7 < 1000 by decide), q1 _ _ ⟨_, _, st, hn⟩⟩
/-- self.f -= e -/
theorem w_dec {f : Str} {F : Int → Int → Int → Int → Int × Int × Int} {e : Expr} {de : DE} {p1 p2 pos : Pos} {get : Int → Int → Int → Int} (hp : Ge p = none) (hr : Ge r = none) (tc : Cls X.K C) (n_f : NoAttr X.K C f) (hput : ∀ (bV rV : V) (pr dd a z : Int), putF f (.int z) (fldsV day burning bV rV pr dd a) = fldsV day burning bV rV (F z pr dd a).1 (F z pr dd a).2.1 (F z pr dd a).2.2)
    (hget : ∀ (bV rV : V) (pr dd a : Int), (fldsV day burning bV rV pr dd a).lookup f = some (.int (get pr dd a))) (hN : X.N[0]? = some ("self" : Str)) (hv : Vis X.env.scope ("self" : Str)) (he : PD X [] He e de) :
    PS X (.AugAssign (.Attribute (.Name "self" p1) f p2) .Sub e pos) (lW X.K p r C Ge He (.list (bs.map firstPy)) (fun E S => ∃ (rows : List (Int × Str)) (pr dd a : Int), S[0]? = some (some (.ins p C (fldsP day burning bs rows pr dd a))) ∧ Lites S ∧ de S fun d => ∃ z : Int, d = .py (.int z) ∧
      E.nx (S.set 0 (some (.ins p C (fldsP day burning bs rows (F (get pr dd a - z) pr dd a).1 (F (get pr dd a - z) pr dd a).2.1 (F (get pr dd a - z) pr dd a).2.2)))))) :=
  PSmono (ps_fldaug (pe_var hN hv (by decide) (by decide)) he in_sub) fun D σ H ⟨E, er, ⟨G, S, w, rows, pr, dd, a, h0, hl, hd⟩, q1, q3, q4⟩ => by
  obtain ⟨k0, dx0, bV0, rv0, f1, f2, f3, f4⟩ := w.open h0
  refine ⟨_, k0, p, C, dx0, _, _, rfl, w.sl.wd.sub _ _ f1, tc, n_f, hget _ _ _ _ _, G, S, _, w.sl, hd, fun v d G' H' s rr z => ?_⟩
  obtain ⟨z, rfl, hn⟩ := z
  cases rr
  have w' := w.next (w.sl.step s) (w.old.trans s.toOld)
  obtain ⟨k1, dx, bV, rv, e1, e2, e3, e4⟩ := w'.open h0
  have st := w'.store hp hr h0 hl e1 e2 e3 e4 (pr' := (F (get pr dd a - z) pr dd a).1) (dd' := (F (get pr dd a - z) pr dd a).2.1) (a' := (F (get pr dd a - z) pr dd a).2.2)
  rw [← hput] at st
  exact ⟨_, _, rfl, rfl, dx, _, s.wd.sub _ _ e1, (show 7 < 1000 by decide), q1 _ _ ⟨_, _, st, hn⟩⟩
end
/-! the maker's row grows until a spot comes again -/
section
variable {day burning last : Int} {bs : Bg}
def tickOf (day burning : Int) (bs : Bg) : Nat → Int
  | 0 => 0
  | n + 1 => (vis day burning bs n).1 + burning
theorem vis_tick (n : Nat) : vis day burning bs n = nextOf day bs (tickOf day burning bs n) := by cases n <;> rfl
structure GoInv (day burning : Int) (bs : Bg) (last : Int) (n : Nat) (kvs : List (Key × PyData)) : Prop where
  i1 : ∀ k, k < n → last ≤ (vis day burning bs k).1 → valD kvs (.inl ((vis day burning bs k).1 % day)) = some (.int k)
  i2 : ∀ (t : Int) (q : PyData), valD kvs (.inl t) = some q → ∃ k : Nat, k < n ∧ q = .int k ∧ last ≤ (vis day burning bs k).1 ∧ (vis day burning bs k).1 % day = t
  len : kvs.length ≤ n
  flat : ∀ p ∈ kvs, flat1 p.2 = true
def spots (day : Int) (bs : Bg) : List Int := bs.map fun p => p.2 % day
def meas (day burning : Int) (bs : Bg) (last : Int) (n : Nat) (kvs : List (Key × PyData)) : Nat := (last + 1 - tickOf day burning bs n).toNat + ((spots day bs).filter fun t => (valD kvs (.inl t)).isNone).length
theorem putD_mem {κ : Type} [DecidableEq κ] {kvs : List (κ × PyData)} {k : κ} {v : PyData} {p : κ × PyData} (h : p ∈ putD kvs k v) : p ∈ kvs ∨ p.2 = v := by
  unfold putD at h
  split at h
  · obtain ⟨x, hx, rfl⟩ := List.mem_map.mp h
    by_cases e : x.1 = k
    · rw [if_pos e]; exact .inr rfl
    · rw [if_neg e]; exact .inl hx
  · rcases List.mem_append.mp h with h | h
    · exact .inl h
    · rw [List.mem_singleton.mp h]; exact .inr rfl
theorem go_tick (hd : 1 ≤ day) (hb : 1 ≤ burning) (hne : bs ≠ []) (n : Nat) : tickOf day burning bs n ≤ (vis day burning bs n).1 ∧ tickOf day burning bs n < tickOf day burning bs (n + 1) := by
  have h := (next_is hd hne (tickOf day burning bs n)).ge
  rw [← vis_tick (burning := burning)] at h
  exact ⟨h, by show _ < (vis day burning bs n).1 + burning; omega⟩
theorem go_low (hd : 1 ≤ day) (hb : 1 ≤ burning) (hne : bs ≠ []) {n : Nat} {kvs : List (Key × PyData)} (I : GoInv day burning bs last n kvs) (h : (vis day burning bs n).1 < last) : GoInv day burning bs last (n + 1) kvs ∧ meas day burning bs last (n + 1) kvs < meas day burning bs last n kvs := by
  obtain ⟨t1, t2⟩ := go_tick hd hb hne n (burning := burning)
  refine ⟨⟨fun k hk hl => ?_, fun t q hq => ?_, by have := I.len; omega, I.flat⟩, ?_⟩
  · by_cases e : k = n
    · subst e; omega
    · exact I.i1 k (by omega) hl
  · obtain ⟨k, h1, h2⟩ := I.i2 t q hq
    exact ⟨k, by omega, h2⟩
  · unfold meas; omega
theorem filter_lt {α : Type} {l : List α} {f g : α → Bool} (h : ∀ x ∈ l, g x = true → f x = true) {y : α} (hy : y ∈ l) (h1 : f y = true) (h2 : g y = false) : (l.filter g).length < (l.filter f).length := by
  have mono : ∀ l' : List α, (∀ x ∈ l', g x = true → f x = true) → (l'.filter g).length ≤ (l'.filter f).length := by
    intro l' h'
    induction l' with
    | nil => exact Nat.le_refl _
    | cons a r ih =>
      have ih := ih fun x hx => h' x (List.mem_cons_of_mem _ hx)
      rw [List.filter_cons, List.filter_cons]
      cases e : g a with
      | true => rw [h' a (List.mem_cons_self ..) e]; simp only [if_true, List.length_cons]; omega
      | false =>
        cases f a
        · simpa using ih
        · simp only [Bool.false_eq_true, if_false, if_true, List.length_cons]; omega
  induction l with
  | nil => cases hy
  | cons a r ih =>
    have hr := fun x hx => h x (List.mem_cons_of_mem _ hx)
    rw [List.filter_cons, List.filter_cons]
    rcases List.mem_cons.mp hy with e | e
    · subst e
      rw [h1, h2]
      have := mono r hr
      simp only [Bool.false_eq_true, if_false, if_true, List.length_cons]; omega
    · have ih := ih hr e
      cases e2 : g a with
      | true => rw [h a (List.mem_cons_self ..) e2]; simp only [if_true, List.length_cons]; omega
      | false =>
        cases f a
        · simpa using ih
        · simp only [Bool.false_eq_true, if_false, if_true, List.length_cons]; omega
theorem go_high (hd : 1 ≤ day) (hb : 1 ≤ burning) (hne : bs ≠ []) {n : Nat} {kvs : List (Key × PyData)} (I : GoInv day burning bs last n kvs) (h : last ≤ (vis day burning bs n).1) (hs : valD kvs (.inl ((vis day burning bs n).1 % day)) = none) :
    GoInv day burning bs last (n + 1) (putD kvs (.inl ((vis day burning bs n).1 % day)) (.int n)) ∧ meas day burning bs last (n + 1) (putD kvs (.inl ((vis day burning bs n).1 % day)) (.int n)) < meas day burning bs last n kvs := by
  obtain ⟨t1, t2⟩ := go_tick hd hb hne n (burning := burning)
  have vp : ∀ t : Int, valD (putD kvs (.inl ((vis day burning bs n).1 % day)) (.int n)) (.inl t) = if t = (vis day burning bs n).1 % day then some (.int n) else valD kvs (.inl t) := fun t => by
    rw [valD_putD]
    by_cases e : t = (vis day burning bs n).1 % day
    · rw [if_pos e, if_pos (by rw [e])]
    · rw [if_neg e, if_neg (fun z => e (Sum.inl.inj z))]
  refine ⟨⟨fun k hk hl => ?_, fun t q hq => ?_, ?_, fun p hp => ?_⟩, ?_⟩
  · rw [vp]
    by_cases e : k = n
    · subst e; rw [if_pos rfl]
    · have := I.i1 k (by omega) hl
      rw [if_neg (fun z => by rw [z, hs] at this; cases this)]; exact this
  · rw [vp] at hq
    by_cases e : t = (vis day burning bs n).1 % day
    · rw [if_pos e] at hq
      exact ⟨n, by omega, (Option.some.inj hq).symm, h, e.symm⟩
    · rw [if_neg e] at hq
      obtain ⟨k, h1, h2⟩ := I.i2 t q hq
      exact ⟨k, by omega, h2⟩
  · have := putD_len kvs (.inl ((vis day burning bs n).1 % day)) (.int n)
    have := I.len; omega
  · rcases putD_mem hp with z | z
    · exact I.flat p z
    · rw [z]; rfl
  · have hsp : (vis day burning bs n).1 % day ∈ spots day bs := by
      have nx := next_is hd hne (tickOf day burning bs n)
      rw [← vis_tick (burning := burning)] at nx
      obtain ⟨p, hp, _, _, c⟩ := nx.who
      refine List.mem_map.mpr ⟨p, hp, ?_⟩
      exact (Int.emod_eq_emod_iff_emod_sub_eq_zero.mpr c).symm
    have := filter_lt (l := spots day bs) (f := fun t => (valD kvs (.inl t)).isNone) (g := fun t => (valD (putD kvs (.inl ((vis day burning bs n).1 % day)) (.int n)) (.inl t)).isNone) (fun t _ ht => by
      rw [vp] at ht
      by_cases e : t = (vis day burning bs n).1 % day
      · rw [if_pos e] at ht; cases ht
      · rw [if_neg e] at ht; exact ht) hsp (by rw [hs]; rfl) (by rw [vp, if_pos rfl]; rfl)
    unfold meas; omega
theorem go_found (hd : 1 ≤ day) (hb : 1 ≤ burning) (hne : bs ≠ []) {n : Nat} {kvs : List (Key × PyData)} (I : GoInv day burning bs last n kvs) (h : last ≤ (vis day burning bs n).1) {q : PyData} (hs : valD kvs (.inl ((vis day burning bs n).1 % day)) = some q) :
    ∃ i : Nat, q = .int i ∧ Found day burning bs last i n (((vis day burning bs n).1 - (vis day burning bs i).1) / day) := by
  obtain ⟨i, h1, rfl, h2, h3⟩ := I.i2 _ _ hs
  refine ⟨i, rfl, h1, ?_, h2, ?_, fun k l k1 k2 k3 e => ?_⟩
  · have := vis_le hd hb hne (burning := burning) (Nat.le_of_lt h1)
    exact Int.ediv_nonneg (by omega) (by omega)
  · have g := Int.emod_add_mul_ediv ((vis day burning bs n).1 - (vis day burning bs i).1) day
    rw [Int.emod_eq_emod_iff_emod_sub_eq_zero.mp h3.symm, Int.zero_add] at g
    omega
  · have l1 := vis_le hd hb hne (burning := burning) k1
    have l2 := vis_mono hd hb hne (burning := burning) k2
    have a := I.i1 k (by omega) (by omega)
    have b := I.i1 l k3 (by omega)
    rw [e, b] at a
    have : (l : Int) = k := by injection a with a; injection a
    omega
end
local macro_rules | `(tactic| walk_at "dl") => `(tactic| simp only [atI_0, atI_1, atI_2, atI_3, stairPy, walkersPy, Walker.py, firstPy, if_true, if_false, List.length_cons, List.length_nil, Nat.reduceAdd, Nat.reduceLeDiff, Nat.zero_add, true_and, and_true, dSeq, dNext, dBrk, dCont, dIfS, dRet, dRetV, dRetVO, dRetO, dSetO, List.map_cons, List.map_nil, dSet, dSetL, dSetD, dApp, dDrop, dPar, dPar3, dParL, dPut, dWhile, dFor, dAsg, dVar, dC, dOp, dUn, dB, dAnd, dOr, dNot, dAndV, dOrV, dNotV, dIf, dNil, dCons, dChain, dTup, dLst, dCB, dCall, dSl, dNo, dPart, dLc, dYes, dDix, dDget_eq, dDin, diL, diT, diR1, diR2, diS, diZ, dgName, dgNil, dgCons, dgTup, fI, fIc, fAdd, fMul, fEq, fNe, fLt, fLe, fGt, fGe, fLtA, fSub, fFdiv, fMod, fIsN, fNotN, fIsB, fNotB, fIx, fSl, fIn, fInS, fDix, cLen, cInt, cMax2, cMin2, cSum, cMaxL, cMinL, cAll, cAny, cTuple, cList, cSorted, cSortD, dRg, dZero, cIsi, dCntS, dIdxS, dRev, dAppR, dSetN, dPar3D, dPar3L, cMinP, dFld, dMet, dMake, lk_day, lk_burning, lk_begun, lk_rows, lk_presses, lk_days, lk_ahead, lk_at, lk_until, lk_next, lk_again, D.py?, D.items, D.lsti, D.ty, D.kvs, keyD, pys, fre, isNonD, wipeS, Option.map, List.set, List.getElem?_cons_succ, List.getElem?_cons_zero])
structure PDone (day burning : Int) (bs : Bg) (rows : List (Int × Str)) (pr dd : Int) (a : Nat) : Prop where
  row : PRow day burning bs rows pr dd
  le : a ≤ 16000000
  per : ∃ q : Nat, pr = q ∧ (∀ k, a ≤ k → vis day burning bs (k + q) = shift (day * dd) (vis day burning bs k)) ∧ (a = 0 ∨ vis day burning bs (a - 1 + q) ≠ shift (day * dd) (vis day burning bs (a - 1)))
def spGo (K : Kf) (C : Addr) : Sp := fun vs H Q _ => ∃ (p r dx : Addr) (Ge : Hp) (day burning : Int) (bs : Bg) (bV : V), vs = [.ref p] ∧ PFix day burning bs ∧ (∀ q ∈ bs, PyData.strOk q.1 = true) ∧ Same Ge H ∧ Ge p = none ∧ Ge r = none ∧ p ≠ r ∧ H p = some (.ins C dx (fldsV day burning bV (.ref r) 0 0 0)) ∧ H r = some (.lst []) ∧ Dt K Ge bV (.list (bs.map firstPy)) ∧
  ∀ (G' H' : Hp) (rows : List (Int × Str)) (pr dd : Int) (a : Nat) (dx' : Addr) (bV' : V), Same Ge G' → Same G' H' → (∀ a o, H a = some o → a ≠ p → a ≠ r → Ge a = none → H' a = some o ∧ G' a = none) → G' p = some (.ins C dx' (fldsV day burning bV' (.ref r) pr dd a)) → KvR K G' (fldsV day burning bV' (.ref r) pr dd a) (fldsP day burning bs rows pr dd a) → PDone day burning bs rows pr dd a → Q .non H'
theorem lites_cons {s0 : Option D} {l : Slots} (h : ∀ x ∈ l, ∀ d, x = some d → lite d) : Lites (s0 :: l) := fun i d hi e => by
  cases i with
  | zero => omega
  | succ i => exact h _ (List.mem_of_getElem? (show l[i]? = some (some d) from e)) d rfl
theorem lites7 {x0 x1 x2 x3 x4 x5 : Option D} (h1 : ∀ d, x1 = some d → lite d) (h2 : ∀ d, x2 = some d → lite d) (h3 : ∀ d, x3 = some d → lite d) (h4 : ∀ d, x4 = some d → lite d) (h5 : ∀ d, x5 = some d → lite d) : Lites [x0, x1, x2, x3, x4, x5, none, none] := lites_cons fun x hx d e => by
  simp only [List.mem_cons, List.mem_nil_iff, or_false] at hx
  rcases hx with rfl | rfl | rfl | rfl | rfl | rfl | rfl
  · exact h1 d e
  · exact h2 d e
  · exact h3 d e
  · exact h4 d e
  · exact h5 d e
  · cases e
  · cases e
theorem lite_int {i : Int} : ∀ d, some (D.py (.int i)) = some d → lite d := fun d e => by cases e; rfl
theorem lite_row {v : Int × Str} : ∀ d, some (D.py (rowP v)) = some d → lite d := fun d e => by cases e; rfl
theorem lite_od {kvs : List (Key × PyData)} (h : ∀ p ∈ kvs, flat1 p.2 = true) : ∀ d, some (D.od kvs) = some d → lite d := fun d e => by cases e; exact h
abbrev s_m_go : Stmt := inClass (top 27) 2
theorem sc_m_go : FnScope ["self", "last", "places", "tick", "visit", "spot", "name", "first"] ["self"] (defScope s_m_go) := ⟨rfl, rfl, rfl, by decide +kernel, rfl, by decide +kernel, by decide +kernel⟩
section
variable {P : Program} {w : World} {K : Kf} {mg : Str → Option Value} {base : Heap} {C : Addr}
theorem ok_go (d : DefM K C "Pressing" "go" s_m_go) (T : Bl mg) (X : PTxt K C) (m_next_visit : CalM P w K mg base C "next_visit" ["self", "tick"] 1 (C_next C)) (m_comes_again : CalM P w K mg base C "comes_again" ["self", "place"] 2 (C_again C)) :
    ∃ (f : Addr) (fd : FuncData), Meth K C "go" f ∧ FnOk P w K mg base CX0 3 f fd ["self"] (spGo K C) ∧ Binds K fd ["self"] [] := by
  have tc := X.tc; have n_day := X.day; have n_rows := X.rows; have n_presses := X.presses; have n_days := X.days; have n_ahead := X.ahead; have n_begun := X.begun; have n_burning := X.burning
  obtain ⟨f, fd, hm, F⟩ := d
  refine ⟨f, fd, hm, F.ok sc_m_go (fun vs H Q E h => ?_) (fun cdv A outer s H vs Q E hr h => ?_), FunD.bindsN F fun _ _ _ _ _ _ us hl => match us, hl with | [_], _ => rfl⟩
  · obtain ⟨p, r, dx, Ge, day, burning, bs, bV, rfl, _⟩ := h; rfl
  · obtain ⟨p, r, dx, Ge, day, burning, bs, bV, rfl, FX, hstr, hS, hGp, hGr, npr, hHp, hHr, hbV, hq⟩ := h
    refine ⟨_, PSs.nox (X := cxOf CX0 P w K mg base ["self", "last", "places", "tick", "visit", "spot", "name", "first"] "Pressing.go" (defScope s_m_go) f cdv A outer s H E) (show PSs (cxOf CX0 P w K mg base ["self", "last", "places", "tick", "visit", "spot", "name", "first"] "Pressing.go" (defScope s_m_go) f cdv A outer s H E).nox (defBody s_m_go) (lW K p r C Ge H (.list (bs.map firstPy)) _) from (w_cons (w_of (psd_par3D (i := 1) (j := 2) (l := 3) rfl sc_m_go.nd rfl rfl rfl (by decide) (by decide) (by decide) rfl rfl rfl (pd_maxL T rfl (pd_lc (own := [("name", 6), ("first", 7)]) (g := (dgTup (dgCons (dgName 6) (dgCons (dgName 7) dgNil)))) (t := dYes) rfl sc_m_go.nd (pdi_list (pd_fld tc n_begun (pd_var 0))) (blkOk_by (N := ["self", "last", "places", "tick", "visit", "spot", "name", "first"]) (sc := defScope s_m_go) (by decide +kernel)) (fun _ _ _ _ _ => (pdg_tup rfl (pdgs_cons (pdg_name (i := 6) sc_m_go.nd rfl (Or.inl rfl)) (pdgs_cons (pdg_name (i := 7) sc_m_go.nd rfl (Or.inl rfl)) pdgs_nil)) (lg_cons rch_name (lg_cons rch_name lg_nil)))) (fun _ _ _ _ _ => ptd_nil) (fun _ _ _ _ _ => (pd_var 7)))) pd_int (by rfl)))
        (w_cons (w_while PassesOwn.never (pdt_val pd_bl) (w_cons (w_of (psd_set (i := 4) sc_m_go.nd rfl (Or.inl rfl) (pd_met tc m_next_visit hr (pd_var 0) (pda_cons (pd_var 3) pda_nil))))
        (w_cons (w_of (psd_set (i := 5) sc_m_go.nd rfl (Or.inl rfl) (pd_mod (pd_ix (pd_var 4) pd_int) (pd_fld tc n_day (pd_var 0)))))
        (w_cons (w_of (psd_if (PDW.t (pdw_and (pdt_cmp op_ge od_ge (pd_ix (pd_var 4) pd_int) (pd_var 1) (nomark _)) (pdw_and1 (pdt_din (lt64 hr.units) (pd_var 5) (pd_var 2))))) (psd_one psd_brk) psd_nil))
        (w_cons (w_of (psd_if (pdt_cmp op_ge od_ge (pd_ix (pd_var 4) pd_int) (pd_var 1) (nomark _)) (psd_one (psd_put (i := 2) (lt64 hr.units) rfl (Or.inl rfl) (by decide) (by decide) (pd_var 5) (pd_len T (pd_fld tc n_rows (pd_var 0))))) psd_nil))
        (w_cons (w_app (day := day) (burning := burning) (bs := bs) hGp hGr tc n_rows rfl (Or.inl rfl) (pd_var 4) (by rfl) (fun ho ha => pe_bm PySem.F.plainAttrs_list PySem.F.slot_list_append PySem.F.type_list_append mt_append ho ha) (by rfl) (by rfl))
        (w_one (w_of (psd_set (i := 3) sc_m_go.nd rfl (Or.inl rfl) (pd_add (pd_ix (pd_var 4) pd_int) (pd_fld tc n_burning (pd_var 0))))))))))))
        (w_cons (w_fld (day := day) (burning := burning) (bs := bs) (F := (fun z pr dd a => (z, dd, a))) hGp hGr tc n_presses (fun _ _ _ _ _ _ => rfl) rfl (Or.inl rfl) (pd_sub (pd_len T (pd_fld tc n_rows (pd_var 0))) (pd_dix (lt64 hr.units) (pd_var 2) (pd_var 5))))
        (w_cons (w_fld (day := day) (burning := burning) (bs := bs) (F := (fun z pr dd a => (pr, z, a))) hGp hGr tc n_days (fun _ _ _ _ _ _ => rfl) rfl (Or.inl rfl) (pd_fdiv (pd_sub (pd_ix (pd_var 4) pd_int) (pd_ix (pd_ix (pd_fld tc n_rows (pd_var 0)) (pd_dix (lt64 hr.units) (pd_var 2) (pd_var 5))) pd_int)) (pd_fld tc n_day (pd_var 0))))
        (w_cons (w_fld (day := day) (burning := burning) (bs := bs) (F := (fun z pr dd a => (pr, dd, z))) hGp hGr tc n_ahead (fun _ _ _ _ _ _ => rfl) rfl (Or.inl rfl) (pd_dix (lt64 hr.units) (pd_var 2) (pd_var 5)))
        (w_one (w_while PassesOwn.never (PDW.t (pdw_and (pdt_cmp op_gt od_gt (pd_fld tc n_ahead (pd_var 0)) pd_int (nomark _)) (pdw_and1 (pdt_val (pd_met tc m_comes_again hr (pd_var 0) (pda_cons (pd_sub (pd_fld tc n_ahead (pd_var 0)) pd_int) pda_nil)))))) (w_one (w_dec (day := day) (burning := burning) (bs := bs) (F := (fun z pr dd a => (pr, dd, z))) (get := fun pr dd a => a) hGp hGr tc n_ahead (fun _ _ _ _ _ _ => rfl) (fun _ _ _ _ _ => rfl) rfl (Or.inl rfl) pd_int)))))))))), ?_⟩
    have G0p : upd (upd Ge r (.lst [])) p (.ins C dx (fldsV day burning bV (.ref r) 0 0 0)) p = some (.ins C dx (fldsV day burning bV (.ref r) 0 0 0)) := upd_same
    have G0r : upd (upd Ge r (.lst [])) p (.ins C dx (fldsV day burning bV (.ref r) 0 0 0)) r = some (.lst []) := by rw [upd_ne npr.symm, upd_same]
    have GeG0 : Same Ge (upd (upd Ge r (.lst [])) p (.ins C dx (fldsV day burning bV (.ref r) 0 0 0))) := fun b o e => by rw [upd_ne (ne_of_none e hGp), upd_ne (ne_of_none e hGr)]; exact e
    have G0H : Same (upd (upd Ge r (.lst [])) p (.ins C dx (fldsV day burning bV (.ref r) 0 0 0))) H := fun b o e => by
      by_cases q : b = p
      · subst q; rw [upd_same] at e; cases e; exact hHp
      · rw [upd_ne q] at e
        by_cases q2 : b = r
        · subst q2; rw [upd_same] at e; cases e; exact hHr
        · rw [upd_ne q2] at e; exact hS b o e
    have kv0 : KvR K (upd (upd Ge r (.lst [])) p (.ins C dx (fldsV day burning bV (.ref r) 0 0 0))) (fldsV day burning bV (.ref r) 0 0 0) (fldsP day burning bs [] 0 0 0) := flds_kv (Dt.up GeG0 hbV) (.lst G0r .nil)
    refine ⟨{ nx := fun S => ∃ (rows : List (Int × Str)) (pr dd : Int) (a : Nat) (l : Slots), S = some (.ins p C (fldsP day burning bs rows pr dd a)) :: l ∧ PDone day burning bs rows pr dd a, rt := fun _ => False }, rfl, ⟨_, [some (.ins p C (fldsP day burning bs [] 0 0 0)), none, none, none, none, none, none, none], ⟨⟨⟨G0H, fun b hb => by simp at hb⟩, rfl, fun i d e => ?_, fun i j di dj q hij h1 h2 o1 => ?_⟩, GeG0, fun a o e n1 n2 e2 => ⟨e, ?_⟩, ⟨dx, _, bV, G0p, lv_rows, lv_begun, hbV⟩, ⟨_, G0r⟩⟩, ?_⟩, fun σ' H' z => ?_, fun _ _ ⟨_, _, _, z⟩ => z.elim, fun _ _ ⟨_, _, _, z⟩ => z.elim⟩
    · match i, e with
      | 0, e => cases e; exact ⟨.ref p, rfl, ⟨dx, _, rfl, G0p, kv0⟩, fun z => z.elim⟩
      | i + 1, e => exact (nones_get (n := 7) (i := i) (d := d) e).elim
    · match i, h1 with
      | 0, h1 => cases h1; exact o1.elim
      | i + 1, h1 => exact (nones_get (n := 7) (i := i) (d := di) h1).elim
    · rw [upd_ne n1, upd_ne n2]; exact e2
    · refine seq_gen fun R hR => ?_
      walk_at "dl"
      have hb0 := FX.len
      refine ⟨fun i acc => acc = pInts ((bs.map (·.2)).take i), rfl, ?_, ?_⟩
      · rintro i d acc hi rfl
        obtain ⟨⟨nm, fi⟩, hx, rfl⟩ := map_get hi
        have key : (bs.map (·.2))[i]? = some fi := map_get2 (f := fun p : Str × Int => p.2) hx
        have hi2 := (List.getElem?_eq_some_iff.mp hx).1
        walk_at "dl"
        refine ⟨?_, by rw [take_more key, snoc_int]⟩
        rw [List.length_map, List.length_take]; omega
      rintro acc rfl
      have hlb : (bs.map firstPy).length = (bs.map (·.2)).length := by rw [List.length_map, List.length_map]
      rw [hlb, List.take_length]
      refine ⟨_, rfl, by rw [List.length_map]; exact List.length_pos_iff.mpr FX.ne, fun last hlast hmax => ?_⟩
      have hl : ∀ q ∈ bs, q.2 ≤ last := fun q hq => hmax _ (List.mem_map.mpr ⟨q, hq, rfl⟩)
      have hlb : 0 ≤ last ∧ last ≤ 15000000 := by
        obtain ⟨q, hq, rfl⟩ := List.mem_map.mp hlast
        exact FX.f0 q hq
      have d1 := FX.d1; have d2 := FX.d2; have b1 := FX.b1
      refine seq_back hR rfl ?_
      refine seq_gen fun R hR => ?_
      walk_at "dl"
      refine ⟨fun m S' => ∃ (n : Nat) (kvs : List (Key × PyData)) (x4 x5 : Option D), S' = [some (.ins p C (fldsP day burning bs ((List.range n).map (vis day burning bs)) 0 0 0)), some (.py (.int last)), some (.od kvs), some (.py (.int (tickOf day burning bs n))), x4, x5, none, none] ∧ GoInv day burning bs last n kvs ∧ m = meas day burning bs last n kvs ∧ n + m ≤ 15500000 ∧ (∀ d, x4 = some d → lite d) ∧ (∀ d, x5 = some d → lite d),
        ⟨_, 0, [], _, _, rfl, ⟨fun k hk => (by omega), fun t q h => (by cases h), Nat.le_refl _, fun q hq => (by cases hq)⟩, rfl, ?_, fun d (h : none = some d) => (by cases h), fun d (h : none = some d) => (by cases h)⟩, ?_⟩
      · show 0 + meas day burning bs last 0 [] ≤ 15500000
        have t0 : tickOf day burning bs 0 = 0 := rfl
        unfold meas
        rw [t0]
        have : ((spots day bs).filter fun t => (valD ([] : List (Key × PyData)) (.inl t)).isNone).length ≤ 1000 := Nat.le_trans (List.length_filter_le _ _) (by unfold spots; rw [List.length_map]; exact FX.len)
        omega
      rintro m S' ⟨n, kvs, x4, x5, rfl, I, rfl, hm, hx4, hx5⟩
      walk_at "dl"
      refine ⟨p, day, burning, bs, _, _, _, _, _, rfl, FX, ?_⟩
      rw [← vis_tick]
      have rl : (((List.range n).map (vis day burning bs)).map rowP).length = n := by rw [List.length_map, List.length_map, List.length_range]
      have rl2 : ((List.range n).map (vis day burning bs)).length = n := by rw [List.length_map, List.length_range]
      have radd : (List.range n).map (vis day burning bs) ++ [vis day burning bs n] = (List.range (n + 1)).map (vis day burning bs) := by rw [List.range_succ, List.map_append]; rfl
      have hkl := I.len
      unfold rowP
      walk_at "dl"
      refine ⟨by omega, if_dec (fun h1 => if_b (fun hs => ?_) (fun hs => if_dec (fun _ => ⟨by omega, ?_⟩) (fun z => absurd h1 z))) (fun h1 => if_f rfl (if_dec (fun z => absurd z h1) (fun _ => ?_)))⟩
      · obtain ⟨q, hq2⟩ := Option.isSome_iff_exists.mp hs
        obtain ⟨i, rfl, FO⟩ := go_found d1 b1 FX.ne I h1 hq2
        have hin := FO.lt
        have L7 : ∀ x0 : Option D, Lites [x0, some (.py (.int last)), some (.od kvs), some (.py (.int (tickOf day burning bs n))), some (.py (.tuple [.int (vis day burning bs n).1, .str (vis day burning bs n).2])), some (.py (.int ((vis day burning bs n).1 % day))), none, none] := fun x0 => lites7 lite_int (lite_od I.flat) lite_int (lite_row (v := vis day burning bs n)) lite_int
        have hrow : ∀ m : Nat, m < n → atI (((List.range n).map (vis day burning bs)).map rowP) (m : Int) = some (rowP (vis day burning bs m)) := fun m hm => atI_nat (by rw [List.getElem?_map, List.getElem?_map, List.getElem?_range hm]; rfl)
        refine seq_back hR rfl ?_
        refine seq_gen fun R hR => ?_
        refine ⟨_, _, _, _, rfl, L7 _, ?_⟩
        walk_at "dl"
        rw [hq2]
        walk_at "dl"
        refine ⟨_, rfl, ?_⟩
        refine seq_back hR rfl ?_
        refine seq_gen fun R hR => ?_
        refine ⟨_, _, _, _, rfl, L7 _, ?_⟩
        walk_at "dl"
        rw [hq2]
        walk_at "dl"
        rw [hrow i hin]
        unfold rowP
        walk_at "dl"
        refine ⟨⟨by omega, by omega⟩, _, rfl, ?_⟩
        refine seq_back hR rfl ?_
        refine seq_gen fun R hR => ?_
        refine ⟨_, _, _, _, rfl, L7 _, ?_⟩
        walk_at "dl"
        rw [hq2]
        walk_at "dl"
        refine ⟨_, rfl, ?_⟩
        refine seq_back hR rfl ?_
        rw [List.length_map, List.length_map, List.length_range]
        have PR : PRow day burning bs ((List.range n).map (vis day burning bs)) ((n : Int) - i) (((vis day burning bs n).1 - (vis day burning bs i).1) / day) := ⟨FX, i, n, last, rfl, FO, rfl, hl, by omega⟩
        generalize hdd : ((vis day burning bs n).1 - (vis day burning bs i).1) / day = dd at FO PR
        have hni : ((n - i : Nat) : Int) = (n : Int) - i := by omega
        rw [← hni] at PR
        rw [← hni]
        refine ⟨fun m S' => ∃ a : Nat, S' = [some (.ins p C (fldsP day burning bs ((List.range n).map (vis day burning bs)) ((n - i : Nat) : Int) dd a)), some (.py (.int last)), some (.od kvs), some (.py (.int (tickOf day burning bs n))), some (.py (.tuple [.int (vis day burning bs n).1, .str (vis day burning bs n).2])), some (.py (.int ((vis day burning bs n).1 % day))), none, none] ∧ a = m ∧ a ≤ n ∧ ∀ k, a ≤ k → vis day burning bs (k + (n - i)) = shift (day * dd) (vis day burning bs k), ⟨_, i, rfl, rfl, by omega, fun k hk => ?_⟩, ?_⟩
        · have := found_rounds d1 b1 FX.ne hl FO hk 1
          rw [Nat.one_mul] at this
          rw [this]
          congr 1; simp
        rintro m S' ⟨a, rfl, rfl, ha, hper⟩
        walk_at "dl"
        refine if_dec (fun hpos => ?_) (fun hpos => ?_)
        · obtain ⟨a', rfl⟩ : ∃ a', a = a' + 1 := ⟨a - 1, by omega⟩
          rw [show ((a' + 1 : Nat) : Int) - 1 = (a' : Int) by push_cast; omega]
          refine ⟨p, day, burning, bs, _, _, _, _, a', n - i, rfl, PR, rfl, by omega, hstr, ?_⟩
          walk_at "dl"
          refine if_dec (fun hc => ?_) (fun hc => ?_)
          · refine ⟨_, _, _, _, rfl, L7 _, _, rfl, a', by omega, a', ?_, rfl, by omega, fun k hk => ?_⟩
            · rw [show ((a' + 1 : Nat) : Int) - 1 = (a' : Int) by push_cast; omega]
            · by_cases e : k = a'
              · subst e; exact hc
              · exact hper k (by omega)
          · exact ⟨_, _, _, a' + 1, _, rfl, ⟨PR, by omega, n - i, rfl, hper, .inr hc⟩⟩
        · have : a = 0 := by omega
          subst this
          rw [if_neg Bool.false_ne_true]
          exact ⟨_, _, _, 0, _, rfl, ⟨PR, by omega, n - i, rfl, hper, .inl rfl⟩⟩
      · have hnone : valD kvs (.inl ((vis day burning bs n).1 % day)) = none := by
          cases e : valD kvs (.inl ((vis day burning bs n).1 % day)) with
          | none => rfl
          | some q => rw [e] at hs; cases hs
        obtain ⟨I', hm'⟩ := go_high d1 b1 FX.ne I h1 hnone
        refine ⟨_, _, _, _, rfl, by rw [rl2]; omega, lites7 lite_int ?_ lite_int lite_row lite_int, vis day burning bs n, rfl, ?_⟩
        · rw [List.length_map, List.length_map, List.length_range]; exact lite_od I'.flat
        · have hl3 : (((List.range n).map (vis day burning bs)).map fun p : Int × Str => PyData.tuple [.int p.1, .str p.2]).length = n := rl
          rw [radd, hl3]
          exact ⟨_, hm', n + 1, _, _, _, rfl, I', rfl, by omega, lite_row (v := vis day burning bs n), lite_int⟩
      · obtain ⟨I', hm'⟩ := go_low d1 b1 FX.ne I (by omega)
        refine ⟨_, _, _, _, rfl, by rw [rl2]; omega, lites7 lite_int (lite_od I.flat) lite_int lite_row lite_int, vis day burning bs n, rfl, ?_⟩
        rw [radd]
        exact ⟨_, hm', n + 1, _, _, _, rfl, I', rfl, by omega, lite_row (v := vis day burning bs n), lite_int⟩
    · obtain ⟨G', S', w', rows, pr, dd, a, l, rfl, pd⟩ := z
      obtain ⟨k0, dx', bV', rv, e1, e2, e3, e4⟩ := w'.open rfl
      exact hq G' H' rows pr dd a dx' bV' w'.up w'.sl.wd.sub w'.keep e1 (flds_kv (Dt.up w'.up e2) (.lst e3 e4)) pd
end
def C_init : CtI := fun ds post => ∃ (day burning : Int) (bs : Bg), ds = [.int day, .int burning, .list (bs.map firstPy)] ∧ PFix day burning bs ∧ (∀ q ∈ bs, PyData.strOk q.1 = true) ∧ ∀ rows pr dd (a : Nat), PDone day burning bs rows pr dd a → post (fldsP day burning bs rows pr dd a)
abbrev s_m_init : Stmt := inClass (top 27) 0
theorem sc_m_init : FnScope ["self", "day", "burning", "begun"] ["self", "day", "burning", "begun"] (defScope s_m_init) := ⟨rfl, rfl, rfl, by decide +kernel, rfl, by decide +kernel, by decide +kernel⟩
section
variable {P : Program} {w : World} {K : Kf} {mg : Str → Option Value} {base : Heap} {C f : Addr} {fd : FuncData}
theorem cal_init (M : Mk K C f) (F : FunD K "__init__" "Pressing.__init__" (defArgs s_m_init) (defBody s_m_init) (defScope s_m_init) [] [] f fd) (X : PTxt K C)
    (go : ∃ (f : Addr) (fd : FuncData), Meth K C "go" f ∧ FnOk P w K mg base CX0 3 f fd ["self"] (spGo K C) ∧ Binds K fd ["self"] []) : CalI P w K mg base C ["self", "day", "burning", "begun"] 4 C_init := by
  have tc := X.tc
  obtain ⟨f1, fd1, hm1, F1, b1⟩ := go
  refine ⟨f, fd, M, F.ok sc_m_init (fun vs H Q E h => ?_) (fun cdv A outer s H vs Q E hr h => ?_), FunD.bindsN F fun _ _ _ _ _ _ us hl => match us, hl with | [_, _, _, _], _ => rfl⟩
  · obtain ⟨x, dx, vs0, G, ds, post, rfl, _, _, hd, _, ⟨day, burning, bs, rfl, _⟩, _⟩ := h
    have := hd.length
    rw [List.length_cons, this]; rfl
  · obtain ⟨p, dx, vs0, G, ds, post, rfl, hS, hGp, hd, hHp, ⟨day, burning, bs, rfl, FX, hstr, hpost⟩, hq⟩ := h
    cases hd with
    | cons a1 hd => cases hd with
    | cons a2 hd => cases hd with
    | cons a3 hd =>
    cases hd
    cases a1; cases a2
    rename_i bV
    refine ⟨_, PSs.nox (pss_cons (ps_fld (pv 0) (pv 1) rfl) (pss_cons (ps_fld (pv 0) (pv 2) rfl) (pss_cons (ps_fld (pv 0) (pv 3) rfl) (pss_cons (ps_fld (pv 0) (pe_lst pa_nil) rfl) (pss_cons (ps_fld (pv 0) pe_int rfl) (pss_cons (ps_fld (pv 0) pe_int rfl) (pss_cons (ps_fld (pv 0) pe_int rfl) (pss_one (ps_expr (pe_meth0 (pl := _) (pv 0) tc hm1 F1 hr b1 .nil pass0) rfl))))))))), ?_⟩
    refine ⟨_, rfl, _, rfl, p, C, dx, _, rfl, hHp, tc, X.day, (by show 0 < 1000; decide), ?_⟩
    refine ⟨_, rfl, _, rfl, p, C, dx, _, rfl, upd_same, tc, X.burning, (by show 1 < 1000; decide), ?_⟩
    rw [upd_upd]
    refine ⟨_, rfl, _, rfl, p, C, dx, _, rfl, upd_same, tc, X.begun, (by show 2 < 1000; decide), ?_⟩
    rw [upd_upd]
    refine ⟨sz1000 (Nat.zero_le _), fun r hr0 => ?_⟩
    have npr : p ≠ r := fun e => by subst e; rw [upd_same] at hr0; cases hr0
    have hHr : H r = none := by rw [upd_ne npr.symm] at hr0; exact hr0
    refine ⟨_, rfl, p, C, dx, _, rfl, (by rw [upd_ne npr]; exact upd_same), tc, X.rows, (by show 3 < 1000; decide), ?_⟩
    refine ⟨_, rfl, p, C, dx, _, rfl, upd_same, tc, X.presses, (by show 4 < 1000; decide), ?_⟩
    rw [upd_upd]
    refine ⟨_, rfl, p, C, dx, _, rfl, upd_same, tc, X.days, (by show 5 < 1000; decide), ?_⟩
    rw [upd_upd]
    refine ⟨_, rfl, p, C, dx, _, rfl, upd_same, tc, X.ahead, (by show 6 < 1000; decide), ?_⟩
    rw [upd_upd]
    have hGr : G r = none := hS.free hHr
    refine ⟨_, rfl, p, dx, _, rfl, upd_same, rfl, p, r, dx, G, day, burning, bs, bV, rfl, FX, hstr, ?_, hGp, hGr, npr, upd_same, ?_, a3, fun G' H' rows pr dd a dx' bV' k1 k2 k3 k4 k5 k6 => ?_⟩
    · intro b o e
      rw [upd_ne (ne_of_none e hGp), upd_ne (ne_of_none e hGr), upd_ne (ne_of_none e hGp)]; exact hS b o e
    · rw [upd_ne npr.symm, upd_same]
    · have hup : ∀ a o, H a = some o → a ≠ p → H' a = some o ∧ G' a = G a := fun b o e ne => by
        have nr := ne_of_none e hHr
        cases q : G b with
        | some u =>
          have h1 := hS b u q
          rw [e] at h1; cases h1
          exact ⟨k2 _ _ (k1 _ _ q), k1 _ _ q⟩
        | none => exact k3 b o (by rw [upd_ne ne, upd_ne nr, upd_ne ne]; exact e) ne nr q
      exact hq _ _ _ G' H' k1 k2 (fun b o e ne => (hup b o e ne).1) (fun b o e ne => (hup b o e ne).2) (.inr k4) (k2 _ _ k4) k5 (hpost _ _ _ _ k6)
end
/-! ### the doors that tell of presses -/
def lampAt (lamps : List Int) (landing : Int) : Int := lamps.getD landing.toNat 0
theorem lamp_at {lamps : List Int} {landing : Int} (h0 : 0 ≤ landing) (h1 : landing < lamps.length) : atI (pInts lamps) landing = some (.int (lampAt lamps landing)) ∧ lampAt lamps landing ∈ lamps := by
  obtain ⟨n, rfl⟩ : ∃ n : Nat, landing = (n : Int) := ⟨landing.toNat, (Int.toNat_of_nonneg h0).symm⟩
  have hn : n < lamps.length := by omega
  unfold lampAt
  rw [Int.toNat_natCast, List.getD_eq_getElem?_getD, List.getElem?_eq_getElem hn]
  exact ⟨atI_nat (by rw [List.getElem?_map, List.getElem?_eq_getElem hn]; rfl), List.getElem_mem hn⟩
theorem pfix {day : Int} {lamps : List Int} {ws : List Walker} {landing : Int} (os : OkStair day lamps) (ow : OkWs day ws) (h0 : 0 ≤ landing) (h1 : landing < lamps.length) : PFix day (lampAt lamps landing) (firstsOf lamps.length landing ws) ∧ ∀ q ∈ firstsOf lamps.length landing ws, PyData.strOk q.1 = true := by
  have hb := os.lp _ (lamp_at h0 h1).2
  refine ⟨⟨os.d1, by have := os.d2; omega, hb.1, by omega, fun e => ?_, ?_, fun q hq => ?_⟩, fun q hq => ?_⟩
  · have := congrArg List.length e
    unfold firstsOf at this
    rw [List.length_map] at this
    have := ow.n1
    simp_all
  · unfold firstsOf; rw [List.length_map]; have := ow.n2; omega
  · obtain ⟨u, hu, rfl⟩ := List.mem_map.mp hq
    obtain ⟨_, k2, k3, k4, k5⟩ := ow.wk u hu
    have a := first_nn h0 h1 k2 k4
    have b := first_le (c := 1000) (by have := os.l2; omega) h0 h1 k3 k4 k5
    have := os.d2
    exact ⟨a, by show u.first lamps.length landing ≤ 15000000; omega⟩
  · obtain ⟨u, hu, rfl⟩ := List.mem_map.mp hq
    exact name_strOk (ow.wk u hu).1
/-- the presses on a landing -/
abbrev visOf (day : Int) (lamps : List Int) (ws : List Walker) (landing : Int) : Nat → Int × Str := vis day (lampAt lamps landing) (firstsOf lamps.length landing ws)
structure OkAsk (day : Int) (lamps : List Int) (ws : List Walker) (landing : Int) : Prop where
  s : OkStair day lamps
  w : OkWs day ws
  l0 : 0 ≤ landing
  l1 : landing < lamps.length
def C_pressing (C : Addr) : Ct := fun _ ds post => ∃ (day : Int) (lamps : List Int) (ws : List Walker) (landing : Int), ds = [.py (stairPy day lamps), .py (walkersPy ws), .py (.int landing)] ∧ OkAsk day lamps ws landing ∧
  ∀ (x : Addr) rows pr dd (a : Nat), PDone day (lampAt lamps landing) (firstsOf lamps.length landing ws) rows pr dd a → post (.ins x C (fldsP day (lampAt lamps landing) (firstsOf lamps.length landing ws) rows pr dd a))
abbrev s_pressing : Stmt := top 28
theorem sc_pressing : FnScope ["stair", "walkers", "landing"] ["stair", "walkers", "landing"] (defScope s_pressing) := ⟨rfl, rfl, rfl, by decide +kernel, rfl, by decide +kernel, by decide +kernel⟩
section
variable {P : Program} {w : World} {K : Kf} {mg : Str → Option Value} {base : Heap} {C : Addr}
theorem cal_pressing (d : Def K mg "pressing" s_pressing) (T : Bl mg) (g_Pressing : mg "Pressing" = some (.ref C)) (m_init : CalI P w K mg base C ["self", "day", "burning", "begun"] 4 C_init) (c_firsts : Cal P w K mg base "firsts" ["stair", "walkers", "landing"] 1 C_firsts) : Cal P w K mg base "pressing" ["stair", "walkers", "landing"] 6 (C_pressing C) := by
  refine calD d sc_pressing (fun B ds post ⟨_, _, _, _, e, _⟩ => by subst e; exact ⟨rfl, fun d hd => by simp at hd; rcases hd with rfl | rfl | rfl <;> exact free_py⟩) (fun _ _ _ _ _ _ _ us hl => match us, hl with | [_, _, _], _ => rfl) (fun f cdv A outer s H E B ds post hr c => ⟨_, (psd_one (psd_ret (pd_make m_init hr g_Pressing (pda_cons (pd_ix (pd_var 0) pd_int) (pda_cons (pd_ix (pd_ix (pd_var 0) pd_int) (pd_var 2)) (pda_cons (pd_cal c_firsts hr (pda_cons (pd_var 0) (pda_cons (pd_var 1) (pda_cons (pd_var 2) pda_nil)))) pda_nil)))))), ?_⟩)
  obtain ⟨day, lamps, ws, landing, rfl, ok, hp⟩ := c
  refine at_st (S' := [some (.py (stairPy day lamps)), some (.py (walkersPy ws)), some (.py (.int landing))]) rfl ?_
  obtain ⟨e, _⟩ := lamp_at ok.l0 ok.l1
  obtain ⟨F, hs⟩ := pfix ok.s ok.w ok.l0 ok.l1
  walk_at "dl"
  rw [e]
  walk_at "dl"
  refine ⟨day, lamps, ws, landing, rfl, by have := ok.w.n2; omega, fun u hu => ⟨(ok.w.wk u hu).2.2.2.1, by have := (ok.w.wk u hu).2.2.2.2; omega⟩, ?_⟩
  walk_at "dl"
  exact ⟨day, _, _, rfl, F, hs, fun rows pr dd a pd x => hp x rows pr dd a pd⟩
end
local macro_rules | `(tactic| walk_at "dl") => `(tactic| simp only [atI_0, atI_1, atI_2, atI_3, stairPy, walkersPy, Walker.py, firstPy, if_true, if_false, List.length_cons, List.length_nil, Nat.reduceAdd, Nat.reduceLeDiff, Nat.zero_add, true_and, and_true, dSeq, dNext, dBrk, dCont, dIfS, dRet, dRetV, dRetVO, dRetO, dSetO, List.map_cons, List.map_nil, dSet, dSetL, dSetD, dApp, dDrop, dPar, dPar3, dParL, dPut, dWhile, dFor, dAsg, dVar, dC, dOp, dUn, dB, dAnd, dOr, dNot, dAndV, dOrV, dNotV, dIf, dNil, dCons, dChain, dTup, dLst, dCB, dCall, dSl, dNo, dPart, dLc, dYes, dDix, dDget_eq, dDin, diL, diT, diR1, diR2, diS, diZ, dgName, dgNil, dgCons, dgTup, fI, fIc, fAdd, fMul, fEq, fNe, fLt, fLe, fGt, fGe, fLtA, fSub, fFdiv, fMod, fIsN, fNotN, fIsB, fNotB, fIx, fSl, fIn, fInS, fDix, cLen, cInt, cMax2, cMin2, cSum, cMaxL, cMinL, cAll, cAny, cTuple, cList, cSorted, cSortD, dRg, dZero, cIsi, dCntS, dIdxS, dRev, dAppR, dSetN, dPar3D, dPar3L, cMinP, dFld, dMet, dMake, lk_day, lk_burning, lk_begun, lk_rows, lk_presses, lk_days, lk_ahead, lk_at, lk_until, lk_next, lk_again, D.py?, D.items, D.lsti, D.ty, D.kvs, keyD, pys, fre, isNonD, wipeS, Option.map, List.set, List.getElem?_cons_succ, List.getElem?_cons_zero])
def C_round : Ct := fun _ ds post => ∃ (day : Int) (lamps : List Int) (ws : List Walker) (landing : Int), ds = [.py (stairPy day lamps), .py (walkersPy ws), .py (.int landing)] ∧ OkAsk day lamps ws landing ∧
  ∀ rows pr dd (a : Nat), PDone day (lampAt lamps landing) (firstsOf lamps.length landing ws) rows pr dd a → post (.py (.tuple [.int a, .int pr, .int dd]))
abbrev s_comes_round : Stmt := top 31
theorem sc_comes_round : FnScope ["stair", "walkers", "landing", "found"] ["stair", "walkers", "landing"] (defScope s_comes_round) := ⟨rfl, rfl, rfl, by decide +kernel, rfl, by decide +kernel, by decide +kernel⟩
section
variable {P : Program} {w : World} {K : Kf} {mg : Str → Option Value} {base : Heap} {C : Addr}
theorem cal_comes_round (d : Def K mg "comes_round" s_comes_round) (T : Bl mg) (X : PTxt K C) (c_need_landing : Cal P w K mg base "need_landing" ["stair", "walkers", "landing"] 5 C_needlanding) (c_pressing : Cal P w K mg base "pressing" ["stair", "walkers", "landing"] 6 (C_pressing C)) : Cal P w K mg base "comes_round" ["stair", "walkers", "landing"] 7 C_round := by
  have tc := X.tc; have n_presses := X.presses; have n_days := X.days; have n_ahead := X.ahead
  refine calD d sc_comes_round (fun B ds post ⟨_, _, _, _, e, _⟩ => by subst e; exact ⟨rfl, fun d hd => by simp at hd; rcases hd with rfl | rfl | rfl <;> exact free_py⟩) (fun _ _ _ _ _ _ _ us hl => match us, hl with | [_, _, _], _ => rfl) (fun f cdv A outer s H E B ds post hr c => ⟨_, (psd_cons (psd_drop (pd_cal c_need_landing hr (pda_cons (pd_var 0) (pda_cons (pd_var 1) (pda_cons (pd_var 2) pda_nil)))))
        (psd_cons (psd_set (i := 3) sc_comes_round.nd rfl (Or.inl rfl) (pd_cal c_pressing hr (pda_cons (pd_var 0) (pda_cons (pd_var 1) (pda_cons (pd_var 2) pda_nil)))))
        (psd_one (psd_ret (pd_tup (pda_cons (pd_fld tc n_ahead (pd_var 3)) (pda_cons (pd_fld tc n_presses (pd_var 3)) (pda_cons (pd_fld tc n_days (pd_var 3)) pda_nil)))))))), ?_⟩)
  obtain ⟨day, lamps, ws, landing, rfl, ok, hp⟩ := c
  refine at_st (S' := [some (.py (stairPy day lamps)), some (.py (walkersPy ws)), some (.py (.int landing)), none]) rfl ?_
  walk_at "dl"
  refine ⟨day, lamps, ws, landing, rfl, ok.s, ok.w, ok.l0, ok.l1, day, lamps, ws, landing, rfl, ok, fun x rows pr dd a pd => ?_⟩
  walk_at "dl"
  exact hp rows pr dd a pd
end
def C_many : Ct := fun _ ds post => ∃ (day : Int) (lamps : List Int) (ws : List Walker) (landing tick : Int), ds = [.py (stairPy day lamps), .py (walkersPy ws), .py (.int landing), .py (.int tick)] ∧ OkAsk day lamps ws landing ∧ 0 ≤ tick ∧ tick ≤ 1000000000000000000 ∧
  ∀ m : Nat, (∀ k, k < m → (visOf day lamps ws landing k).1 < tick) → tick ≤ (visOf day lamps ws landing m).1 → post (.py (.int m))
abbrev s_how_many : Stmt := top 30
theorem sc_how_many : FnScope ["stair", "walkers", "landing", "tick"] ["stair", "walkers", "landing", "tick"] (defScope s_how_many) := ⟨rfl, rfl, rfl, by decide +kernel, rfl, by decide +kernel, by decide +kernel⟩
section
variable {P : Program} {w : World} {K : Kf} {mg : Str → Option Value} {base : Heap} {C : Addr}
theorem cal_how_many (d : Def K mg "how_many" s_how_many) (T : Bl mg) (TFAR : ∃ t, mg "FAR" = some (.int 1000000000000000000 t)) (X : PTxt K C) (c_need_landing : Cal P w K mg base "need_landing" ["stair", "walkers", "landing"] 5 C_needlanding) (c_need_tick : Cal P w K mg base "need_tick" ["tick", "last"] 2 C_needtick) (c_pressing : Cal P w K mg base "pressing" ["stair", "walkers", "landing"] 6 (C_pressing C))
    (m_until : CalM P w K mg base C "until" ["self", "tick"] 2 (C_until C)) : Cal P w K mg base "how_many" ["stair", "walkers", "landing", "tick"] 7 C_many := by
  have tc := X.tc
  refine calD d sc_how_many (fun B ds post ⟨_, _, _, _, _, e, _⟩ => by subst e; exact ⟨rfl, fun d hd => by simp at hd; rcases hd with rfl | rfl | rfl | rfl <;> exact free_py⟩) (fun _ _ _ _ _ _ _ us hl => match us, hl with | [_, _, _, _], _ => rfl) (fun f cdv A outer s H E B ds post hr c => ⟨_, (psd_cons (psd_drop (pd_cal c_need_landing hr (pda_cons (pd_var 0) (pda_cons (pd_var 1) (pda_cons (pd_var 2) pda_nil)))))
        (psd_cons (psd_drop (pd_cal c_need_tick hr (pda_cons (pd_var 3) (pda_cons (pd_globI (by rfl) TFAR) pda_nil))))
        (psd_one (psd_ret (pd_met tc m_until hr (pd_cal c_pressing hr (pda_cons (pd_var 0) (pda_cons (pd_var 1) (pda_cons (pd_var 2) pda_nil)))) (pda_cons (pd_var 3) pda_nil)))))), ?_⟩)
  obtain ⟨day, lamps, ws, landing, tick, rfl, ok, h0, h1, hp⟩ := c
  refine at_st (S' := [some (.py (stairPy day lamps)), some (.py (walkersPy ws)), some (.py (.int landing)), some (.py (.int tick))]) rfl ?_
  walk_at "dl"
  refine ⟨day, lamps, ws, landing, rfl, ok.s, ok.w, ok.l0, ok.l1, tick, _, rfl, h0, h1, day, lamps, ws, landing, rfl, ok, fun x rows pr dd a pd => ?_⟩
  walk_at "dl"
  exact ⟨x, day, _, _, rows, _, _, _, tick, rfl, pd.row, h0, by omega, fun m k1 k2 => hp m k1 k2⟩
end
def C_neednumber : Ct := fun _ ds post => ∃ n : Int, ds = [.py (.int n)] ∧ 1 ≤ n ∧ n ≤ 1000000000000000000 ∧ post (.py .none)
def C_press : Ct := fun _ ds post => ∃ (day : Int) (lamps : List Int) (ws : List Walker) (landing : Int) (n : Nat), ds = [.py (stairPy day lamps), .py (walkersPy ws), .py (.int landing), .py (.int ((n : Int) + 1))] ∧ OkAsk day lamps ws landing ∧ (n : Int) + 1 ≤ 1000000000000000000 ∧ post (.py (rowP (visOf day lamps ws landing n)))
abbrev s_need_number : Stmt := top 22
theorem sc_need_number : FnScope ["number"] ["number"] (defScope s_need_number) := ⟨rfl, rfl, rfl, by decide +kernel, rfl, by decide +kernel, by decide +kernel⟩
abbrev s_press : Stmt := top 29
theorem sc_press : FnScope ["stair", "walkers", "landing", "number"] ["stair", "walkers", "landing", "number"] (defScope s_press) := ⟨rfl, rfl, rfl, by decide +kernel, rfl, by decide +kernel, by decide +kernel⟩
section
variable {P : Program} {w : World} {K : Kf} {mg : Str → Option Value} {base : Heap} {C : Addr}
theorem cal_need_number (d : Def K mg "need_number" s_need_number) (T : Bl mg) (TFAR : ∃ t, mg "FAR" = some (.int 1000000000000000000 t)) (c_is_within : Cal P w K mg base "is_within" ["thing", "low", "high"] 1 C_within) : Cal P w K mg base "need_number" ["number"] 2 C_neednumber := by
  refine calD d sc_need_number (fun B ds post ⟨_, e, _⟩ => by subst e; exact ⟨rfl, fun d hd => by simp at hd; rcases hd with rfl; exact free_py⟩) (fun _ _ _ _ _ _ _ us hl => match us, hl with | [_], _ => rfl) (fun f cdv A outer s H E B ds post hr c => ⟨_, (psd_one (psd_if (pdt_not (pdt_val (pd_cal c_is_within hr (pda_cons (pd_var 0) (pda_cons pd_int (pda_cons (pd_globI (by rfl) TFAR) pda_nil)))))) (psd_one psd_never) psd_nil)), ?_⟩)
  obtain ⟨n, rfl, h1, h2, hp⟩ := c
  refine at_st (S' := [some (.py (.int n))]) rfl ?_
  walk_at "dl"
  refine ⟨_, _, _, rfl, if_nb (fun h => ?_) (fun _ => hp)⟩
  simp only [withinB, Bool.and_eq_false_iff, decide_eq_false_iff_not] at h
  omega
theorem cal_press (d : Def K mg "press" s_press) (T : Bl mg) (X : PTxt K C) (c_need_landing : Cal P w K mg base "need_landing" ["stair", "walkers", "landing"] 5 C_needlanding) (c_need_number : Cal P w K mg base "need_number" ["number"] 2 C_neednumber) (c_pressing : Cal P w K mg base "pressing" ["stair", "walkers", "landing"] 6 (C_pressing C))
    (m_at : CalM P w K mg base C "at" ["self", "place"] 1 (C_at C)) : Cal P w K mg base "press" ["stair", "walkers", "landing", "number"] 7 C_press := by
  have tc := X.tc
  refine calD d sc_press (fun B ds post ⟨_, _, _, _, _, e, _⟩ => by subst e; exact ⟨rfl, fun d hd => by simp at hd; rcases hd with rfl | rfl | rfl | rfl <;> exact free_py⟩) (fun _ _ _ _ _ _ _ us hl => match us, hl with | [_, _, _, _], _ => rfl) (fun f cdv A outer s H E B ds post hr c => ⟨_, (psd_cons (psd_drop (pd_cal c_need_landing hr (pda_cons (pd_var 0) (pda_cons (pd_var 1) (pda_cons (pd_var 2) pda_nil)))))
        (psd_cons (psd_drop (pd_cal c_need_number hr (pda_cons (pd_var 3) pda_nil)))
        (psd_one (psd_ret (pd_met tc m_at hr (pd_cal c_pressing hr (pda_cons (pd_var 0) (pda_cons (pd_var 1) (pda_cons (pd_var 2) pda_nil)))) (pda_cons (pd_sub (pd_var 3) pd_int) pda_nil)))))), ?_⟩)
  obtain ⟨day, lamps, ws, landing, n, rfl, ok, h1, hp⟩ := c
  refine at_st (S' := [some (.py (stairPy day lamps)), some (.py (walkersPy ws)), some (.py (.int landing)), some (.py (.int ((n : Int) + 1)))]) rfl ?_
  walk_at "dl"
  refine ⟨day, lamps, ws, landing, rfl, ok.s, ok.w, ok.l0, ok.l1, _, rfl, by omega, h1, day, lamps, ws, landing, rfl, ok, fun x rows pr dd a pd => ?_⟩
  walk_at "dl"
  rw [Int.add_sub_cancel]
  exact ⟨x, day, _, _, rows, _, _, _, n, rfl, pd.row, by omega, hp⟩
end
def C_whocome : Ct := fun _ ds post => ∃ (day : Int) (lamps : List Int) (ws : List Walker) (landing tick : Int), ds = [.py (stairPy day lamps), .py (walkersPy ws), .py (.int landing), .py (.int tick)] ∧ 1 ≤ day ∧ ws.length ≤ 1000 ∧ (∀ w ∈ ws, 0 ≤ w.pc ∧ w.pc ≤ 1000000000) ∧
  post (.ol (pStrs (comersOf lamps.length day landing ws tick)))
abbrev s_who_come : Stmt := top 24
theorem sc_who_come : FnScope ["stair", "walkers", "landing", "tick", "found", "name", "first"] ["stair", "walkers", "landing", "tick"] (defScope s_who_come) := ⟨rfl, rfl, rfl, by decide +kernel, rfl, by decide +kernel, by decide +kernel⟩
section
variable {P : Program} {w : World} {K : Kf} {mg : Str → Option Value} {base : Heap}
theorem cal_who_come (d : Def K mg "who_come" s_who_come) (T : Bl mg) (c_firsts : Cal P w K mg base "firsts" ["stair", "walkers", "landing"] 1 C_firsts) : CalO P w K mg base "who_come" ["stair", "walkers", "landing", "tick"] 2 C_whocome := by
  refine calDO d sc_who_come (fun B ds post ⟨_, _, _, _, _, e, _⟩ => by subst e; exact ⟨rfl, fun d hd => by simp at hd; rcases hd with rfl | rfl | rfl | rfl <;> exact free_py⟩) (fun _ _ _ _ _ _ _ us hl => match us, hl with | [_, _, _, _], _ => rfl) (fun f cdv A outer s H E B ds post hr c => ⟨_, (psd_cons (psd_setL (i := 4) sc_who_come.nd rfl (Or.inl rfl))
        (psd_cons (psd_for PassesOwn.never rfl (pdi_list (pd_cal c_firsts hr (pda_cons (pd_var 0) (pda_cons (pd_var 1) (pda_cons (pd_var 2) pda_nil))))) (pdg_tup rfl (pdgs_cons (pdg_name (i := 5) sc_who_come.nd rfl (Or.inl rfl)) (pdgs_cons (pdg_name (i := 6) sc_who_come.nd rfl (Or.inl rfl)) pdgs_nil)) (lg_cons rch_name (lg_cons rch_name lg_nil))) (psd_one (psd_if (PDW.t (pdw_and (pdt_cmp op_ge od_ge (pd_var 3) (pd_var 6) (nomark _)) (pdw_and1 (pdt_cmp (op_eqA hr.units) od_eq (pd_mod (pd_sub (pd_var 3) (pd_var 6)) (pd_ix (pd_var 0) pd_int)) pd_int (nomark _))))) (psd_one (psd_app (i := 4) rfl (Or.inl rfl) (by decide) (by decide) (pd_var 5) (fun ho ha => pe_bm PySem.F.plainAttrs_list PySem.F.slot_list_append PySem.F.type_list_append mt_append ho ha) (by rfl) (by rfl))) psd_nil)))
        (psd_one (psd_retVO 4)))), ?_⟩)
  obtain ⟨day, lamps, ws, landing, tick, rfl, h1, h2, h3, hp⟩ := c
  refine at_st (S' := [some (.py (stairPy day lamps)), some (.py (walkersPy ws)), some (.py (.int landing)), some (.py (.int tick)), none, none, none]) rfl ?_
  walk_at "dl"
  refine ⟨day, lamps, ws, landing, rfl, h2, h3, ?_⟩
  walk_at "dl"
  refine ⟨fun i S' => ∃ (x1 x2 : Option D), S' = [some (.py (stairPy day lamps)), some (.py (walkersPy ws)), some (.py (.int landing)), some (.py (.int tick)), some (.ol (pStrs (comersOf lamps.length day landing (ws.take i) tick))), x1, x2], ⟨_, _, rfl⟩, ?_, ?_⟩
  · rintro i d S' hi ⟨x1, x2, rfl⟩
    obtain ⟨p, hp1, rfl⟩ := map_get hi
    obtain ⟨u, hu, rfl⟩ := map_get hp1
    have hlen : (pStrs (comersOf lamps.length day landing (ws.take i) tick)).length < 16000000 := by
      unfold comersOf
      rw [List.length_map, List.length_map]
      have := List.length_filter_le (Walker.comes lamps.length day landing tick) (ws.take i)
      rw [List.length_take] at this
      omega
    have step : pStrs (comersOf lamps.length day landing (ws.take (i + 1)) tick) = pStrs (comersOf lamps.length day landing (ws.take i) tick) ++ (if u.comes lamps.length day landing tick = true then [PyData.str u.nm] else []) := by
      unfold comersOf
      rw [take_more hu, List.filter_append, List.map_append, pStrs, List.map_append]
      congr 1
      rw [List.filter_cons, List.filter_nil]
      split <;> rfl
    unfold Walker.comes at step
    walk_at "dl"
    refine if_dec (fun g1 => ?_) (fun g1 => ?_)
    · simp only [decide_eq_true g1, Bool.true_and] at step
      refine ⟨by omega, ?_⟩
      refine if_dec (fun g2 => ?_) (fun g2 => ?_)
      · rw [if_pos (decide_eq_true g2)] at step
        rw [← step]; exact ⟨hlen, _, _, rfl⟩
      · rw [if_neg (by simp [g2]), List.append_nil] at step
        rw [← step]; exact ⟨_, _, rfl⟩
    · simp only [decide_eq_false g1, Bool.false_and] at step
      rw [if_neg Bool.false_ne_true, List.append_nil] at step
      rw [if_neg Bool.false_ne_true, ← step]
      exact ⟨_, _, rfl⟩
  · rintro S' ⟨x1, x2, rfl⟩
    walk_at "dl"
    have e : ((firstsOf lamps.length landing ws).map firstPy).length = ws.length := by unfold firstsOf; rw [List.length_map, List.length_map]
    rw [e, List.take_length]
    exact hp
end
def C_come : Ct := fun _ ds post => ∃ (day : Int) (lamps : List Int) (ws : List Walker) (landing tick : Int), ds = [.py (stairPy day lamps), .py (walkersPy ws), .py (.int landing), .py (.int tick)] ∧ OkStair day lamps ∧ OkWs day ws ∧ 0 ≤ landing ∧ landing < lamps.length ∧ 0 ≤ tick ∧ tick ≤ 1000000000000000000 ∧
  post (.ol (pStrs (comersOf lamps.length day landing ws tick)))
abbrev s_come : Stmt := top 25
theorem sc_come : FnScope ["stair", "walkers", "landing", "tick"] ["stair", "walkers", "landing", "tick"] (defScope s_come) := ⟨rfl, rfl, rfl, by decide +kernel, rfl, by decide +kernel, by decide +kernel⟩
section
variable {P : Program} {w : World} {K : Kf} {mg : Str → Option Value} {base : Heap}
theorem cal_come (d : Def K mg "come" s_come) (T : Bl mg) (TFAR : ∃ t, mg "FAR" = some (.int 1000000000000000000 t)) (c_need_landing : Cal P w K mg base "need_landing" ["stair", "walkers", "landing"] 5 C_needlanding) (c_need_tick : Cal P w K mg base "need_tick" ["tick", "last"] 2 C_needtick) (c_who_come : CalO P w K mg base "who_come" ["stair", "walkers", "landing", "tick"] 2 C_whocome) : CalO P w K mg base "come" ["stair", "walkers", "landing", "tick"] 6 C_come := by
  refine calDO d sc_come (fun B ds post ⟨_, _, _, _, _, e, _⟩ => by subst e; exact ⟨rfl, fun d hd => by simp at hd; rcases hd with rfl | rfl | rfl | rfl <;> exact free_py⟩) (fun _ _ _ _ _ _ _ us hl => match us, hl with | [_, _, _, _], _ => rfl) (fun f cdv A outer s H E B ds post hr c => ⟨_, (psd_cons (psd_drop (pd_cal c_need_landing hr (pda_cons (pd_var 0) (pda_cons (pd_var 1) (pda_cons (pd_var 2) pda_nil)))))
        (psd_cons (psd_drop (pd_cal c_need_tick hr (pda_cons (pd_var 3) (pda_cons (pd_globI (by rfl) TFAR) pda_nil))))
        (psd_one (psd_retO c_who_come hr (pda_cons (pd_var 0) (pda_cons (pd_var 1) (pda_cons (pd_var 2) (pda_cons (pd_var 3) pda_nil)))))))), ?_⟩)
  obtain ⟨day, lamps, ws, landing, tick, rfl, h1, h2, h3, h4, h5, h6, hp⟩ := c
  refine at_st (S' := [some (.py (stairPy day lamps)), some (.py (walkersPy ws)), some (.py (.int landing)), some (.py (.int tick))]) rfl ?_
  walk_at "dl"
  exact ⟨day, lamps, ws, landing, rfl, h1, h2, h3, h4, tick, _, rfl, h5, h6, day, lamps, ws, landing, tick, rfl, h1.d1, by have := h2.n2; omega, fun u hu => ⟨(h2.wk u hu).2.2.2.1, by have := (h2.wk u hu).2.2.2.2; omega⟩, hp⟩
end
/-! ### houses a little changed -/
theorem asc_pairwise : ∀ ws : List Walker, ascB (ws.map Walker.py) = true → ws.Pairwise (fun a b => a.nm.cps.toList < b.nm.cps.toList)
  | [], _ => List.Pairwise.nil
  | [a], _ => List.pairwise_singleton _ _
  | a :: b :: l, h => by
    have h : (nmLt a.py b.py && ascB ((b :: l).map Walker.py)) = true := h
    rw [Bool.and_eq_true] at h
    have ih := asc_pairwise (b :: l) h.2
    have hab : a.nm.cps.toList < b.nm.cps.toList := of_decide_eq_true h.1
    refine List.pairwise_cons.mpr ⟨fun x hx => ?_, ih⟩
    rcases List.mem_cons.mp hx with e | e
    · rw [e]; exact hab
    · exact List.lt_trans hab ((List.pairwise_cons.mp ih).1 x e)
theorem pairwise_asc : ∀ ws : List Walker, ws.Pairwise (fun a b => a.nm.cps.toList < b.nm.cps.toList) → ascB (ws.map Walker.py) = true
  | [], _ => rfl
  | [a], _ => rfl
  | a :: b :: l, h => by
    rw [List.pairwise_cons] at h
    show (nmLt a.py b.py && ascB ((b :: l).map Walker.py)) = true
    rw [pairwise_asc (b :: l) h.2, Bool.and_true]
    exact decide_eq_true (h.1 b (List.mem_cons_self ..))
theorem OkWs.sub {day : Int} {ws ws' : List Walker} (h : OkWs day ws) (hs : ws'.Sublist ws) (h1 : 1 ≤ ws'.length) : OkWs day ws' :=
  ⟨h1, Nat.le_trans hs.length_le h.n2, fun u hu => h.wk u (hs.subset hu), pairwise_asc _ ((asc_pairwise _ h.asc).sublist hs)⟩
def without {α : Type} (l : List α) (k : Nat) : List α := l.take k ++ l.drop (k + 1)
theorem without_sub {α : Type} (l : List α) (k : Nat) : (without l k).Sublist l := by
  have : l.take k ++ l.drop k = l := List.take_append_drop k l
  unfold without
  rw [← List.drop_drop]
  conv => rhs; rw [← this]
  exact List.Sublist.append (List.Sublist.refl _) (List.drop_sublist _ _)
theorem without_len {α : Type} {l : List α} {k : Nat} (h : k < l.length) : (without l k).length + 1 = l.length := by
  unfold without
  rw [List.length_append, List.length_take, List.length_drop]; omega
theorem without_mem {α : Type} {l : List α} {k : Nat} {x : α} (hx : x ∈ l) : l[k]? = some x ∨ x ∈ without l k := by
  obtain ⟨i, hi, rfl⟩ := List.getElem_of_mem hx
  unfold without
  by_cases h1 : i < k
  · exact .inr (List.mem_append.mpr (.inl (List.mem_iff_getElem.mpr ⟨i, by rw [List.length_take]; omega, by rw [List.getElem_take]⟩)))
  · by_cases h2 : i = k
    · subst h2; exact .inl (List.getElem?_eq_getElem hi)
    · refine .inr (List.mem_append.mpr (.inr (List.mem_iff_getElem.mpr ⟨i - (k + 1), by rw [List.length_drop]; omega, ?_⟩)))
      rw [List.getElem_drop]
      congr 1; omega
def setAt {α : Type} (l : List α) (k : Nat) (x : α) : List α := l.take k ++ [x] ++ l.drop (k + 1)
theorem setAt_eq {α : Type} {l : List α} {k : Nat} {x : α} (h : k < l.length) : setAt l k x = l.set k x := by
  unfold setAt
  rw [List.set_eq_take_append_cons_drop, if_pos h, List.append_assoc]; rfl
theorem setAt_len {α : Type} {l : List α} {k : Nat} {x : α} (h : k < l.length) : (setAt l k x).length = l.length := by rw [setAt_eq h, List.length_set]
theorem OkStair.set {day : Int} {lamps : List Int} (h : OkStair day lamps) {k : Nat} {x : Int} (hk : k < lamps.length) (h1 : 1 ≤ x) (h2 : x ≤ 1000000) : OkStair day (setAt lamps k x) := by
  rw [setAt_eq hk]
  refine ⟨h.d1, h.d2, by rw [List.length_set]; exact h.l1, by rw [List.length_set]; exact h.l2, fun y hy => ?_⟩
  rcases List.mem_or_eq_of_mem_set hy with z | z
  · exact h.lp y z
  · rw [z]; exact ⟨h1, h2⟩
theorem lampAt_set {lamps : List Int} {k : Nat} {x : Int} (hk : k < lamps.length) : lampAt (setAt lamps k x) (k : Int) = x := by
  rw [setAt_eq hk]
  unfold lampAt
  rw [Int.toNat_natCast, List.getD_eq_getElem?_getD, List.getElem?_set_self hk]; rfl
theorem map_without {α β : Type} {f : α → β} {l : List α} {k : Nat} : (l.map f).take k ++ (l.map f).drop (k + 1) = (without l k).map f := by
  unfold without; rw [List.map_append, List.map_take, List.map_drop]
theorem map_setAt {α β : Type} {f : α → β} {l : List α} {k : Nat} {x : α} : (l.map f).take k ++ [f x] ++ (l.map f).drop (k + 1) = (setAt l k x).map f := by
  unfold setAt; rw [List.map_append, List.map_append, List.map_take, List.map_drop]; rfl
theorem PDone.q {day burning : Int} {bs : Bg} {rows : List (Int × Str)} {pr dd : Int} {a : Nat} (h : PDone day burning bs rows pr dd a) : ∃ q : Nat, pr = q ∧ 1 ≤ q ∧ q ≤ 16000000 ∧ 0 ≤ dd ∧ Per day burning bs q dd a := by
  obtain ⟨q, rfl, h1, _⟩ := h.per
  obtain ⟨i, j, last, _, F, e, _, hj⟩ := h.row.ex
  have := F.lt
  exact ⟨q, rfl, by omega, by omega, F.nd, ⟨h1⟩⟩
/-! ### shares -/
def cntOf (f : Nat → Int × Str) (a q : Nat) (nm : Str) : Nat := ((List.range q).map fun k => (f (a + k)).2).count nm
def shareP (f : Nat → Int × Str) (a q : Nat) (u : Walker) : PyData := .tuple [.str u.nm, .int (cntOf f a q u.nm)]
def C_shares : Ct := fun _ ds post => ∃ (day : Int) (lamps : List Int) (ws : List Walker) (landing : Int), ds = [.py (stairPy day lamps), .py (walkersPy ws), .py (.int landing)] ∧ OkAsk day lamps ws landing ∧
  ∀ rows dd (q a : Nat), PDone day (lampAt lamps landing) (firstsOf lamps.length landing ws) rows q dd a → post (.py (.list (ws.map (shareP (visOf day lamps ws landing) a q))))
abbrev s_shares : Stmt := top 32
theorem sc_shares : FnScope ["stair", "walkers", "landing", "found", "names", "place", "walker"] ["stair", "walkers", "landing"] (defScope s_shares) := ⟨rfl, rfl, rfl, by decide +kernel, rfl, by decide +kernel, by decide +kernel⟩
section
variable {P : Program} {w : World} {K : Kf} {mg : Str → Option Value} {base : Heap} {C : Addr}
theorem cal_shares (d : Def K mg "shares" s_shares) (T : Bl mg) (X : PTxt K C) (c_need_landing : Cal P w K mg base "need_landing" ["stair", "walkers", "landing"] 5 C_needlanding) (c_pressing : Cal P w K mg base "pressing" ["stair", "walkers", "landing"] 6 (C_pressing C)) (m_at : CalM P w K mg base C "at" ["self", "place"] 1 (C_at C)) : Cal P w K mg base "shares" ["stair", "walkers", "landing"] 7 C_shares := by
  have tc := X.tc; have n_presses := X.presses; have n_ahead := X.ahead
  refine calD d sc_shares (fun B ds post ⟨_, _, _, _, e, _⟩ => by subst e; exact ⟨rfl, fun d hd => by simp at hd; rcases hd with rfl | rfl | rfl <;> exact free_py⟩) (fun _ _ _ _ _ _ _ us hl => match us, hl with | [_, _, _], _ => rfl) (fun f cdv A outer s H E B ds post hr c => ⟨_, (psd_cons (psd_drop (pd_cal c_need_landing hr (pda_cons (pd_var 0) (pda_cons (pd_var 1) (pda_cons (pd_var 2) pda_nil)))))
        (psd_cons (psd_set (i := 3) sc_shares.nd rfl (Or.inr rfl) (pd_cal c_pressing hr (pda_cons (pd_var 0) (pda_cons (pd_var 1) (pda_cons (pd_var 2) pda_nil)))))
        (psd_cons (psd_set (i := 4) sc_shares.nd rfl (Or.inr rfl) (pd_lc (own := [("place", 5)]) (g := (dgName 5)) (t := dYes) rfl sc_shares.nd (pdi_range1 (by rfl) T.range (pd_fld tc n_presses (pd_var 3))) (blkOk_by (N := ["stair", "walkers", "landing", "found", "names", "place", "walker"]) (sc := defScope s_shares) (by decide +kernel)) (fun _ _ _ _ _ => (pdg_name (i := 5) sc_shares.nd rfl (Or.inl rfl))) (fun _ _ _ _ _ => ptd_nil) (fun _ _ _ _ _ => (pd_ix (pd_met tc m_at hr (pd_var 3) (pda_cons (pd_add (pd_fld tc n_ahead (pd_var 3)) (pd_var 5)) pda_nil)) pd_int))))
        (psd_one (psd_ret (pd_lc (own := [("walker", 6)]) (g := (dgName 6)) (t := dYes) rfl sc_shares.nd (pdi_tup (pd_var 1)) (blkOk_by (N := ["stair", "walkers", "landing", "found", "names", "place", "walker"]) (sc := defScope s_shares) (by decide +kernel)) (fun _ _ _ _ _ => (pdg_name (i := 6) sc_shares.nd rfl (Or.inl rfl))) (fun _ _ _ _ _ => ptd_nil) (fun _ _ _ _ _ => (pd_tup (pda_cons (pd_ix (pd_var 6) pd_int) (pda_cons (pd_count (pd_var 4) (pd_ix (pd_var 6) pd_int) (fun ho ha => pe_bm PySem.F.plainAttrs_list PySem.F.slot_list_count PySem.F.type_list_count mt_countS ho ha)) pda_nil)))))))))), ?_⟩)
  obtain ⟨day, lamps, ws, landing, rfl, ok, hp⟩ := c
  refine at_st (S' := [some (.py (stairPy day lamps)), some (.py (walkersPy ws)), some (.py (.int landing)), none, none, none, none]) rfl ?_
  walk_at "dl"
  refine ⟨day, lamps, ws, landing, rfl, ok.s, ok.w, ok.l0, ok.l1, day, lamps, ws, landing, rfl, ok, fun x rows pr dd a pd => ?_⟩
  obtain ⟨q, rfl, q1, q2, q3, _⟩ := pd.q
  have ha := pd.le
  walk_at "dl"
  refine ⟨by omega, by omega, ?_⟩
  rw [Int.toNat_natCast]
  refine ⟨fun i acc => acc = pStrs (((List.range q).map fun k => (visOf day lamps ws landing (a + k)).2).take i), rfl, ?_, ?_⟩
  · rintro i d acc hi rfl
    obtain ⟨hi1, rfl⟩ := range_get hi
    have key : ((List.range q).map fun k => (visOf day lamps ws landing (a + k)).2)[i]? = some (visOf day lamps ws landing (a + i)).2 := by rw [List.getElem?_map, List.getElem?_range hi1]; rfl
    walk_at "dl"
    refine ⟨x, day, _, _, rows, _, _, _, a + i, by push_cast; rfl, pd.row, by push_cast; omega, ?_⟩
    unfold rowP
    walk_at "dl"
    refine ⟨?_, by rw [take_more key, pStrs, pStrs, List.map_append]; rfl⟩
    rw [List.length_map, List.length_take, List.length_map, List.length_range]; omega
  rintro acc rfl
  rw [List.length_map, List.length_range, List.take_of_length_le (by rw [List.length_map, List.length_range]; exact Nat.le_refl _)]
  refine ⟨fun i acc => acc = (ws.map (shareP (visOf day lamps ws landing) a q)).take i, rfl, ?_, ?_⟩
  · rintro i d acc hi rfl
    obtain ⟨u, hu, rfl⟩ := map_get hi
    have key : (ws.map (shareP (visOf day lamps ws landing) a q))[i]? = some (shareP (visOf day lamps ws landing) a q u) := map_get2 hu
    have hi2 := (List.getElem?_eq_some_iff.mp hu).1
    walk_at "dl"
    refine ⟨_, rfl, _, rfl, ?_⟩
    refine ⟨?_, (take_more key).symm⟩
    rw [List.length_take, List.length_map]; have := ok.w.n2; omega
  · rintro acc rfl
    rw [List.length_map, List.take_of_length_le (by rw [List.length_map]; exact Nat.le_refl _)]
    exact hp rows dd q a pd
end
/-! ### what is told is told by one -/
theorem pdone_uniq {day burning : Int} {bs : Bg} {rows rows' : List (Int × Str)} {q q' : Nat} {dd dd' : Int} {a a' : Nat} (h : PDone day burning bs rows q dd a) (h' : PDone day burning bs rows' q' dd' a') : q = q' ∧ dd = dd' ∧ a = a' := by
  obtain ⟨i, j, last, _, F, e, hl, _⟩ := h.row.ex
  obtain ⟨i', j', last', _, F', e', hl', _⟩ := h'.row.ex
  have FX := h.row.fix
  have g := found_prime FX.d1 FX.b1 FX.ne hl F
  have g' := found_prime FX.d1 FX.b1 FX.ne hl' F'
  have := F.lt; have := F'.lt
  have n1 := F.nd; have n2 := F'.nd
  rw [show j - i = q by omega] at g
  rw [show j' - i' = q' by omega] at g'
  obtain ⟨p, ep, per, min⟩ := h.per
  obtain ⟨p', ep', per', min'⟩ := h'.per
  have ep : p = q := by omega
  have ep' : p' = q' := by omega
  subst ep; subst ep'
  have c1 := per_cmp FX.d1 (fun k => Int.le_refl _) (⟨per⟩ : Per day burning bs p dd a) ⟨per'⟩
  have c2 := per_cmp FX.d1 (fun k => Int.le_refl _) (⟨per'⟩ : Per day burning bs p' dd' a') ⟨per⟩
  obtain ⟨D, rfl⟩ : ∃ D : Nat, dd = (D : Int) := ⟨dd.toNat, (Int.toNat_of_nonneg n1).symm⟩
  obtain ⟨D', rfl⟩ : ∃ D : Nat, dd' = (D : Int) := ⟨dd'.toNat, (Int.toNat_of_nonneg n2).symm⟩
  rw [Int.toNat_natCast] at g g'
  have eq : p' * D = p * D' := by
    have : (p' : Int) * D = p * D' := by omega
    exact_mod_cast this
  have d1 : p ∣ p' := (Nat.Coprime.dvd_of_dvd_mul_right (show Nat.Coprime p D from g)) ⟨D', by rw [← eq]⟩
  have d2 : p' ∣ p := (Nat.Coprime.dvd_of_dvd_mul_right (show Nat.Coprime p' D' from g')) ⟨D, by rw [eq]⟩
  have hpp : p = p' := Nat.dvd_antisymm d1 d2
  subst hpp
  have hD : D = D' := Nat.eq_of_mul_eq_mul_left (by omega) eq
  subst hD
  refine ⟨rfl, rfl, ?_⟩
  by_cases z : a = a'
  · exact z
  · exfalso
    rcases Nat.lt_or_ge a a' with l | l
    · rcases min' with m | m
      · omega
      · exact m (per _ (by omega))
    · rcases min with m | m
      · omega
      · exact m (per' _ (by omega))
theorem PDone.prime {day burning : Int} {bs : Bg} {rows : List (Int × Str)} {q : Nat} {dd : Int} {a : Nat} (h : PDone day burning bs rows q dd a) : ∃ D : Nat, dd = D ∧ Nat.gcd q D = 1 := by
  obtain ⟨i, j, last, _, F, e, hl, _⟩ := h.row.ex
  have FX := h.row.fix
  have g := found_prime FX.d1 FX.b1 FX.ne hl F
  have := F.lt
  have n1 := F.nd
  rw [show j - i = q by omega] at g
  exact ⟨dd.toNat, (Int.toNat_of_nonneg n1).symm, g⟩
theorem isN_at {day burning : Int} {bs : Bg} (hd : 1 ≤ day) (hb : 1 ≤ burning) (hne : bs ≠ []) {n m : Nat} (a : ∀ k, k < m → (vis day burning bs k).1 < (vis day burning bs n).1) (b : (vis day burning bs n).1 ≤ (vis day burning bs m).1) : m = n := by
  rcases Nat.lt_or_ge m n with l | l
  · have := vis_mono hd hb hne (burning := burning) l; omega
  · by_cases z : m = n
    · exact z
    · have := a n (by omega); omega
theorem comers_head {day : Int} {n : Nat} {landing t : Int} {ws : List Walker} {v : Int × Str} (ow : OkWs day ws) (h : NextIs day (firstsOf n landing ws) t v) : (comersOf n day landing ws v.1).take 1 = [v.2] := by
  obtain ⟨p, hp, e1, c⟩ := h.who
  obtain ⟨u, hu, rfl⟩ := List.mem_map.mp hp
  have hcu : u.comes n day landing v.1 = true := by
    unfold Walker.comes
    simp only [Bool.and_eq_true, decide_eq_true_eq]
    exact c
  have huf : u ∈ ws.filter (Walker.comes n day landing v.1) := List.mem_filter.mpr ⟨hu, hcu⟩
  have hpw := (asc_pairwise ws ow.asc).filter (Walker.comes n day landing v.1)
  unfold comersOf
  cases e : ws.filter (Walker.comes n day landing v.1) with
  | nil => rw [e] at huf; cases huf
  | cons x r =>
    rw [e] at huf hpw
    have hx : x ∈ ws.filter (Walker.comes n day landing v.1) := by rw [e]; exact List.mem_cons_self ..
    obtain ⟨hx1, hx2⟩ := List.mem_filter.mp hx
    unfold Walker.comes at hx2
    simp only [Bool.and_eq_true, decide_eq_true_eq] at hx2
    have hle := h.least (x.nm, x.first n landing) (List.mem_map.mpr ⟨x, hx1, rfl⟩) hx2
    have : x.nm = v.2 := by
      rcases List.mem_cons.mp huf with z | z
      · rw [← z]; exact e1
      · have := (List.pairwise_cons.mp hpw).1 u z
        have e1 : u.nm = v.2 := e1
        rw [e1] at this
        exact absurd this hle
    show [x.nm] = [v.2]
    rw [this]
theorem one_sum : ∀ (l : List Str) (x : Str), l.Nodup → x ∈ l → (l.map fun y => if x == y then (1 : Int) else 0).sum = 1
  | [], _, _, h => by cases h
  | a :: l, x, hn, h => by
    rw [List.nodup_cons] at hn
    rw [List.map_cons, List.sum_cons]
    have zero : ∀ (r : List Str), x ∉ r → (r.map fun y => if x == y then (1 : Int) else 0).sum = 0 := by
      intro r
      induction r with
      | nil => intro _; rfl
      | cons b r ih =>
        intro hb
        rw [List.mem_cons, not_or] at hb
        rw [List.map_cons, List.sum_cons, ih hb.2, if_neg (fun z => hb.1 (beq_iff_eq.mp z))]; rfl
    by_cases e : x = a
    · subst e
      rw [if_pos (beq_self_eq_true x), zero l hn.1]; rfl
    · rw [if_neg (fun z => e (beq_iff_eq.mp z)), one_sum l x hn.2 ((List.mem_cons.mp h).resolve_left e)]; rfl
theorem cnt_sum (names : List Str) (hn : names.Nodup) : ∀ L : List Str, (∀ x ∈ L, x ∈ names) → (names.map fun y => ((L.count y : Nat) : Int)).sum = L.length
  | [], _ => by
    have : ∀ r : List Str, (r.map fun y => (((([] : List Str).count y) : Nat) : Int)).sum = 0 := by
      intro r; induction r with
      | nil => rfl
      | cons a r ih => rw [List.map_cons, List.sum_cons, ih]; rfl
    exact this names
  | x :: L, h => by
    have ih := cnt_sum names hn L fun y hy => h y (List.mem_cons_of_mem _ hy)
    have o := one_sum names x hn (h x (List.mem_cons_self ..))
    have split : ∀ r : List Str, (r.map fun y => (((x :: L).count y : Nat) : Int)).sum = (r.map fun y => ((L.count y : Nat) : Int)).sum + (r.map fun y => if x == y then (1 : Int) else 0).sum := by
      intro r
      induction r with
      | nil => rfl
      | cons a r ihr =>
        rw [List.map_cons, List.map_cons, List.map_cons, List.sum_cons, List.sum_cons, List.sum_cons, ihr, List.count_cons]
        by_cases e : x == a
        · rw [if_pos e, if_pos e]; push_cast; omega
        · rw [if_neg e, if_neg e]; push_cast; omega
    rw [split, ih, o, List.length_cons]; push_cast; rfl
theorem PDone.core {day burning : Int} {bs : Bg} {rows : List (Int × Str)} {q D a : Nat} (h : PDone day burning bs rows q D a) (g : Nat.gcd q D = 1) : Core day burning bs q D a := by
  obtain ⟨p, ep, per, min⟩ := h.per
  have ep : p = q := by omega
  subst ep
  obtain ⟨q', e, q1, _⟩ := h.q
  exact ⟨per, min, by omega, g⟩
/-- all numbers that are told, as plain numbers -/
theorem PDone.all {day burning : Int} {bs : Bg} {rows : List (Int × Str)} {pr dd : Int} {a : Nat} (h : PDone day burning bs rows pr dd a) : ∃ q D : Nat, pr = q ∧ dd = D ∧ q ≤ 16000000 ∧ Core day burning bs q D a := by
  obtain ⟨q, rfl, q1, q2, _, _⟩ := h.q
  obtain ⟨D, rfl, g⟩ := h.prime
  exact ⟨q, D, rfl, rfl, q2, h.core g⟩
def C_common : Ct := fun _ ds post => ∃ m n : Nat, ds = [.py (.int m), .py (.int n)] ∧ post (.py (.int (Nat.gcd m n : Nat)))
abbrev s_common : Stmt := top 42
theorem sc_common : FnScope ["one", "other"] ["one", "other"] (defScope s_common) := ⟨rfl, rfl, rfl, by decide +kernel, rfl, by decide +kernel, by decide +kernel⟩
section
variable {P : Program} {w : World} {K : Kf} {mg : Str → Option Value} {base : Heap} {C : Addr}
theorem cal_common (d : Def K mg "common" s_common) (T : Bl mg) : Cal P w K mg base "common" ["one", "other"] 1 C_common := by
  refine calD d sc_common (fun B ds post ⟨_, _, e, _⟩ => by subst e; exact ⟨rfl, fun d hd => by simp at hd; rcases hd with rfl | rfl <;> exact free_py⟩) (fun _ _ _ _ _ _ _ us hl => match us, hl with | [_, _], _ => rfl) (fun f cdv A outer s H E B ds post hr c => ⟨_, (psd_cons (psd_while PassesOwn.never (pdt_cmp (op_neA hr.units) od_ne (pd_var 1) pd_int (nomark _)) (psd_one (psd_par (i := 0) (j := 1) rfl sc_common.nd rfl rfl (by decide) rfl rfl (pd_var 1) (pd_mod (pd_var 0) (pd_var 1)) (by rfl))))
        (psd_one (psd_retV 0))), ?_⟩)
  obtain ⟨m, n, rfl, hp⟩ := c
  refine at_st (S' := [some (.py (.int m)), some (.py (.int n))]) rfl ?_
  walk_at "dl"
  refine ⟨fun k S' => ∃ x y : Nat, S' = [some (.py (.int x)), some (.py (.int y))] ∧ Nat.gcd x y = Nat.gcd m n ∧ y = k, ⟨_, m, n, rfl, rfl, rfl⟩, ?_⟩
  rintro k S' ⟨x, y, rfl, hg, rfl⟩
  walk_at "dl"
  refine if_ndec (fun h => ?_) (fun h => ?_)
  · have hy : 0 < y := by omega
    refine ⟨by omega, x % y, Nat.mod_lt _ hy, y, x % y, by rw [Int.natCast_emod], ?_, rfl⟩
    rw [Nat.gcd_comm, ← Nat.gcd_rec, Nat.gcd_comm]; exact hg
  · have : y = 0 := by omega
    subst this
    rw [Nat.gcd_zero_right] at hg
    subst hg; exact hp
end
/-! ### how long a lamp must burn -/
def C_needfraction : Ct := fun _ ds post => ∃ t b : Nat, ds = [.py (.tuple [.int t, .int b])] ∧ 1 ≤ t ∧ t ≤ 1000 ∧ 1 ≤ b ∧ b ≤ 1000 ∧ Nat.gcd t b = 1 ∧ post (.py .none)
structure Least (day : Int) (bs : Bg) (top bottom R : Int) : Prop where
  r1 : 1 ≤ R
  rh : R ≤ day * bottom + 1
  up : ∀ (B : Int) (q D a : Nat), R ≤ B → Core day B bs q D a → (q : Int) * bottom ≤ top * D
  down : ∀ (B : Int) (q D a : Nat), 1 ≤ B → B < R → Core day B bs q D a → ¬ (q : Int) * bottom ≤ top * D
def C_least : Ct := fun _ ds post => ∃ (day : Int) (lamps : List Int) (ws : List Walker) (landing : Int) (t b : Nat), ds = [.py (stairPy day lamps), .py (walkersPy ws), .py (.int landing), .py (.tuple [.int t, .int b])] ∧ OkAsk day lamps ws landing ∧ 1 ≤ t ∧ t ≤ 1000 ∧ 1 ≤ b ∧ b ≤ 1000 ∧ Nat.gcd t b = 1 ∧
  ∀ R : Int, Least day (firstsOf lamps.length landing ws) t b R → post (.py (.int R))
abbrev s_need_fraction : Stmt := top 43
theorem sc_need_fraction : FnScope ["thing", "part"] ["thing"] (defScope s_need_fraction) := ⟨rfl, rfl, rfl, by decide +kernel, rfl, by decide +kernel, by decide +kernel⟩
abbrev s_least_burning : Stmt := top 44
theorem sc_least_burning : FnScope ["stair", "walkers", "landing", "fraction", "begun", "low", "high", "middle", "found"] ["stair", "walkers", "landing", "fraction"] (defScope s_least_burning) := ⟨rfl, rfl, rfl, by decide +kernel, rfl, by decide +kernel, by decide +kernel⟩
section
variable {P : Program} {w : World} {K : Kf} {mg : Str → Option Value} {base : Heap} {C : Addr}
theorem cal_need_fraction (d : Def K mg "need_fraction" s_need_fraction) (T : Bl mg) (c_is_within : Cal P w K mg base "is_within" ["thing", "low", "high"] 1 C_within) (c_common : Cal P w K mg base "common" ["one", "other"] 1 C_common) : Cal P w K mg base "need_fraction" ["thing"] 2 C_needfraction := by
  refine calD d sc_need_fraction (fun B ds post ⟨_, _, e, _⟩ => by subst e; exact ⟨rfl, fun d hd => by simp at hd; rcases hd with rfl; exact free_py⟩) (fun _ _ _ _ _ _ _ us hl => match us, hl with | [_], _ => rfl) (fun f cdv A outer s H E B ds post hr c => ⟨_, (psd_cons (psd_if (PDW.t (pdw_or (pdt_not (pdt_val (pd_isi T (pd_var 0) (pd_ty (by rfl) T.tuple bo_tuple)))) (pdw_or (pdt_cmp (op_neA hr.units) od_ne (pd_len T (pd_var 0)) pd_int (nomark _)) (pdw_or1 (pdt_not (pdt_val (pd_all T rfl (pd_lc (own := [("part", 1)]) (g := (dgName 1)) (t := dYes) rfl sc_need_fraction.nd (pdi_tup (pd_var 0)) (blkOk_by (N := ["thing", "part"]) (sc := defScope s_need_fraction) (by decide +kernel)) (fun _ _ _ _ _ => (pdg_name (i := 1) sc_need_fraction.nd rfl (Or.inl rfl))) (fun _ _ _ _ _ => ptd_nil) (fun _ _ _ _ _ => (pd_cal c_is_within hr (pda_cons (pd_var 1) (pda_cons pd_int (pda_cons pd_int pda_nil))))))))))))) (psd_one psd_never) psd_nil)
        (psd_one (psd_if (pdt_cmp (op_neA hr.units) od_ne (pd_cal c_common hr (pda_cons (pd_ix (pd_var 0) pd_int) (pda_cons (pd_ix (pd_var 0) pd_int) pda_nil))) pd_int (nomark _)) (psd_one psd_never) psd_nil))), ?_⟩)
  obtain ⟨t, b, rfl, t1, t2, b1, b2, hg, hp⟩ := c
  refine at_st (S' := [some (.py (.tuple [.int t, .int b])), none]) rfl ?_
  walk_at "dl"
  refine ⟨by decide, if_nb (fun z => absurd z (by decide)) fun _ => if_ndec (fun z => absurd rfl z) fun _ => ?_⟩
  have win : ∀ k : Nat, 1 ≤ k → k ≤ 1000 → withinB (.int k) 1 1000 = true := fun k h1 h2 => by
    simp only [withinB, Bool.and_eq_true, decide_eq_true_eq]; omega
  refine ⟨fun i acc => acc = List.replicate i (PyData.bool true), rfl, ?_, ?_⟩
  · rintro i d acc hi rfl
    have hd : withinB d 1 1000 = true ∧ i < 2 := by
      match i, hi with
      | 0, hi => cases hi; exact ⟨win t t1 t2, by decide⟩
      | 1, hi => cases hi; exact ⟨win b b1 b2, by decide⟩
      | i + 2, hi => cases hi
    refine ⟨d, _, _, rfl, ?_⟩
    rw [hd.1]
    exact ⟨by rw [List.length_replicate]; omega, List.replicate_succ'.symm⟩
  rintro acc rfl
  refine ⟨[true, true], rfl, if_nb (fun z => by cases z) fun _ => ?_⟩
  refine ⟨t, b, rfl, ?_⟩
  rw [hg]
  walk_at "dl"
  exact if_ndec (fun z => absurd rfl z) fun _ => hp
theorem cal_least_burning (d : Def K mg "least_burning" s_least_burning) (T : Bl mg) (X : PTxt K C) (g_Pressing : mg "Pressing" = some (.ref C)) (m_init : CalI P w K mg base C ["self", "day", "burning", "begun"] 4 C_init) (c_firsts : Cal P w K mg base "firsts" ["stair", "walkers", "landing"] 1 C_firsts) (c_need_landing : Cal P w K mg base "need_landing" ["stair", "walkers", "landing"] 5 C_needlanding) (c_need_fraction : Cal P w K mg base "need_fraction" ["thing"] 2 C_needfraction) : Cal P w K mg base "least_burning" ["stair", "walkers", "landing", "fraction"] 6 C_least := by
  have tc := X.tc; have n_presses := X.presses; have n_days := X.days
  refine calD d sc_least_burning (fun B ds post ⟨_, _, _, _, _, _, e, _⟩ => by subst e; exact ⟨rfl, fun d hd => by simp at hd; rcases hd with rfl | rfl | rfl | rfl <;> exact free_py⟩) (fun _ _ _ _ _ _ _ us hl => match us, hl with | [_, _, _, _], _ => rfl) (fun f cdv A outer s H E B ds post hr c => ⟨_, (psd_cons (psd_drop (pd_cal c_need_landing hr (pda_cons (pd_var 0) (pda_cons (pd_var 1) (pda_cons (pd_var 2) pda_nil)))))
        (psd_cons (psd_drop (pd_cal c_need_fraction hr (pda_cons (pd_var 3) pda_nil)))
        (psd_cons (psd_par3 (i := 4) (j := 5) (l := 6) rfl sc_least_burning.nd rfl rfl rfl (by decide) (by decide) (by decide) rfl rfl rfl (pd_cal c_firsts hr (pda_cons (pd_var 0) (pda_cons (pd_var 1) (pda_cons (pd_var 2) pda_nil)))) pd_int (pd_add (pd_mul (pd_ix (pd_var 0) pd_int) (pd_ix (pd_var 3) pd_int)) pd_int) (by rfl))
        (psd_cons (psd_while PassesOwn.never (pdt_cmp op_ltA od_ltA (pd_var 5) (pd_var 6) (nomark _)) (psd_cons (psd_set (i := 7) sc_least_burning.nd rfl (Or.inl rfl) (pd_fdiv (pd_add (pd_var 5) (pd_var 6)) pd_int))
        (psd_cons (psd_set (i := 8) sc_least_burning.nd rfl (Or.inl rfl) (pd_make m_init hr g_Pressing (pda_cons (pd_ix (pd_var 0) pd_int) (pda_cons (pd_var 7) (pda_cons (pd_var 4) pda_nil)))))
        (psd_one (psd_if (pdt_cmp op_le od_le (pd_mul (pd_fld tc n_presses (pd_var 8)) (pd_ix (pd_var 3) pd_int)) (pd_mul (pd_ix (pd_var 3) pd_int) (pd_fld tc n_days (pd_var 8))) (nomark _)) (psd_one (psd_set (i := 6) sc_least_burning.nd rfl (Or.inl rfl) (pd_var 7))) (psd_one (psd_set (i := 5) sc_least_burning.nd rfl (Or.inl rfl) (pd_add (pd_var 7) pd_int))))))))
        (psd_one (psd_retV 5)))))), ?_⟩)
  obtain ⟨day, lamps, ws, landing, t, b, rfl, ok, t1, t2, b1, b2, hg, hp⟩ := c
  refine at_st (S' := [some (.py (stairPy day lamps)), some (.py (walkersPy ws)), some (.py (.int landing)), some (.py (.tuple [.int t, .int b])), none, none, none, none, none]) rfl ?_
  obtain ⟨FX, hstr⟩ := pfix ok.s ok.w ok.l0 ok.l1
  have hd1 := ok.s.d1; have hd2 := ok.s.d2
  walk_at "dl"
  refine ⟨day, lamps, ws, landing, rfl, ok.s, ok.w, ok.l0, ok.l1, t, b, rfl, t1, t2, b1, b2, hg, day, lamps, ws, landing, rfl, by have := ok.w.n2; omega, fun u hu => ⟨(ok.w.wk u hu).2.2.2.1, by have := (ok.w.wk u hu).2.2.2.2; omega⟩, cmul_l ⟨by omega, by omega⟩, ?_⟩
  walk_at "dl"
  have hdb : day * 1 ≤ day * b ∧ day * b ≤ 1000000 * 1000 := ⟨Int.mul_le_mul_of_nonneg_left (by omega) (by omega), Int.mul_le_mul hd2 (by omega) (by omega) (by decide)⟩
  refine ⟨fun m S' => ∃ (lo hi : Int) (x7 x8 : Option D), S' = [some (.py (stairPy day lamps)), some (.py (walkersPy ws)), some (.py (.int landing)), some (.py (.tuple [.int t, .int b])), some (.py (.list ((firstsOf lamps.length landing ws).map firstPy))), some (.py (.int lo)), some (.py (.int hi)), x7, x8] ∧ m = (hi - lo).toNat ∧ 1 ≤ lo ∧ lo ≤ hi ∧ hi ≤ day * b + 1 ∧
    (∀ (B : Int) (q D a : Nat), hi ≤ B → Core day B (firstsOf lamps.length landing ws) q D a → (q : Int) * b ≤ t * D) ∧ (∀ (B : Int) (q D a : Nat), 1 ≤ B → B < lo → Core day B (firstsOf lamps.length landing ws) q D a → ¬ (q : Int) * b ≤ t * D),
    ⟨_, 1, day * b + 1, _, _, rfl, rfl, by omega, by omega, by omega, fun B q D a hB h => good_high hd1 (by omega) FX.ne h (by omega) (by omega) hB, fun B q D a h1 h2 => by omega⟩, ?_⟩
  rintro m S' ⟨lo, hi, x7, x8, rfl, rfl, l1, l2, l3, up, down⟩
  walk_at "dl"
  refine if_dec (fun hlt => ?_) (fun hlt => ?_)
  · have hm : lo ≤ (lo + hi) / 2 ∧ (lo + hi) / 2 < hi := by omega
    generalize (lo + hi) / 2 = mid at hm
    have FM : PFix day mid (firstsOf lamps.length landing ws) := ⟨FX.d1, FX.d2, by omega, by omega, FX.ne, FX.len, FX.f0⟩
    refine ⟨⟨by omega, by omega⟩, day, mid, _, rfl, FM, hstr, fun rows pr dd a pd x => ?_⟩
    obtain ⟨q, D, rfl, rfl, hq16, core⟩ := pd.all
    walk_at "dl"
    refine ⟨cmul_r ⟨by omega, by omega⟩, cmul_l ⟨by omega, by omega⟩, if_dec (fun hg => ?_) (fun hg => ?_)⟩
    · exact ⟨_, by omega, lo, mid, _, _, rfl, rfl, l1, by omega, by omega, fun B q' D' a' hB h => good_up hd1 (by omega) hB FX.ne core h (by omega) hg, down⟩
    · exact ⟨_, by omega, mid + 1, hi, _, _, rfl, rfl, by omega, by omega, by omega, up, fun B q' D' a' h1 h2 h z => hg (good_up hd1 h1 (by omega) FX.ne h core (by omega) z)⟩
  · have : hi = lo := by omega
    subst this
    exact hp hi ⟨l1, l3, up, down⟩
end
/-! ### presses by days of all landings; the best begin -/
noncomputable def sumOf (day : Int) (lamps : List Int) (ws : List Walker) : Nat → Nat × Nat
  | 0 => (0, 1)
  | i + 1 => addF (sumOf day lamps ws i) (coreQ day (lampAt lamps i) (firstsOf lamps.length i ws))
noncomputable def fracOf (day : Int) (lamps : List Int) (ws : List Walker) : Nat × Nat := redF (sumOf day lamps ws lamps.length)
theorem redF01 : redF (0, 1) = (0, 1) := by unfold redF; simp
structure Small (day : Int) (lamps : List Int) (ws : List Walker) (M : Nat) : Prop where
  lp : ∀ x ∈ lamps, (ws.length : Int) * (x + day) ≤ M * day
  m1 : 1 ≤ M
  pw : M ^ lamps.length < 1073741824
def C_bydaysP : Ct := fun _ ds post => ∃ (day : Int) (lamps : List Int) (ws : List Walker) (M : Nat), ds = [.py (stairPy day lamps), .py (walkersPy ws)] ∧ OkStair day lamps ∧ OkWs day ws ∧ Small day lamps ws M ∧ post (.py (.tuple [.int (fracOf day lamps ws).1, .int (fracOf day lamps ws).2]))
theorem core_small {day : Int} {lamps : List Int} {ws : List Walker} {M : Nat} {l : Nat} (ok : OkAsk day lamps ws l) (sm : Small day lamps ws M) {q D a : Nat} (h : Core day (lampAt lamps l) (firstsOf lamps.length l ws) q D a) : 1 ≤ D ∧ D ≤ M ∧ q ≤ 8 := by
  obtain ⟨FX, _⟩ := pfix ok.s ok.w ok.l0 ok.l1
  have hl : ∀ p ∈ firstsOf lamps.length (l : Int) ws, p.2 ≤ 15000000 := fun p hp => (FX.f0 p hp).2
  have k := core_days FX.d1 FX.b1 FX.ne hl h
  have hlen : (firstsOf lamps.length (l : Int) ws).length = ws.length := by unfold firstsOf; rw [List.length_map]
  rw [hlen] at k
  have m := sm.lp _ (lamp_at ok.l0 ok.l1).2
  have d1 := FX.d1
  have kk : day * D ≤ day * M := by rw [Int.mul_comm day M]; omega
  have kk := Int.le_of_mul_le_mul_left kk (by omega)
  have far : (15000000 : Int) ≤ (vis day (lampAt lamps l) (firstsOf lamps.length (l : Int) ws) 15000000).1 := by
    have := vis_nn FX.d1 FX.b1 FX.ne (burning := lampAt lamps l) 15000000
    omega
  obtain ⟨_, hq⟩ := core_late FX.d1 FX.b1 FX.ne hl h far
  rw [hlen] at hq
  have := ok.w.n2
  exact ⟨h.pos FX.d1 FX.b1 FX.ne, by omega, by omega⟩
theorem sum_small {day : Int} {lamps : List Int} {ws : List Walker} {M : Nat} (os : OkStair day lamps) (ow : OkWs day ws) (sm : Small day lamps ws M) : ∀ i : Nat, i ≤ lamps.length → 1 ≤ (sumOf day lamps ws i).2 ∧ (sumOf day lamps ws i).2 ≤ M ^ i
  | 0, _ => ⟨Nat.le_refl _, Nat.le_refl _⟩
  | i + 1, h => by
    obtain ⟨h1, h2⟩ := sum_small os ow sm i (by omega)
    have ok : OkAsk day lamps ws i := ⟨os, ow, by omega, by omega⟩
    obtain ⟨FX, _⟩ := pfix ok.s ok.w ok.l0 ok.l1
    obtain ⟨q, D, a, core⟩ := core_ex FX.d1 FX.b1 FX.ne (last := 15000000) (fun p hp => (FX.f0 p hp).2) (burning := lampAt lamps i)
    obtain ⟨d1, d2, _⟩ := core_small ok sm core
    show 1 ≤ (sumOf day lamps ws i).2 * (coreQ day (lampAt lamps i) (firstsOf lamps.length i ws)).2 ∧ (sumOf day lamps ws i).2 * (coreQ day (lampAt lamps i) (firstsOf lamps.length i ws)).2 ≤ M ^ (i + 1)
    rw [coreQ_eq FX.d1 core, Nat.pow_succ]
    exact ⟨Nat.mul_pos h1 d1, Nat.mul_le_mul h2 d2⟩
theorem pow_small {M n i : Nat} (h1 : 1 ≤ M) (h : M ^ n < 1073741824) (hi : i ≤ n) : M ^ i < 1073741824 := Nat.lt_of_le_of_lt (Nat.pow_le_pow_right h1 hi) h
abbrev Best := Option (Nat × (Nat × Nat))
def bestStep (b : Best) (g : Nat) (f : Nat × Nat) : Best := match b with
  | none => some (g, f)
  | some (g0, f0) => if (f.1 : Int) * f0.2 < f0.1 * f.2 then some (g, f) else some (g0, f0)
def bestP : Best → PyData
  | none => .none
  | some (g, f) => .tuple [.int g, .tuple [.int f.1, .int f.2]]
def begins (u : Walker) (g : Nat) : Walker := ⟨u.nm, g, u.pc, u.up⟩
noncomputable def bestOf (day : Int) (lamps : List Int) (ws : List Walker) (k : Nat) (u : Walker) : Nat → Best
  | 0 => none
  | g + 1 => bestStep (bestOf day lamps ws k u g) g (fracOf day lamps (setAt ws k (begins u g)))
theorem best_small {day : Int} {lamps : List Int} {ws : List Walker} {k : Nat} {u : Walker} {F : Nat} (h : ∀ g : Nat, (g : Int) < day → (fracOf day lamps (setAt ws k (begins u g))).2 ≤ F) : ∀ n : Nat, (n : Int) ≤ day → ∀ g f, bestOf day lamps ws k u n = some (g, f) → f.2 ≤ F
  | 0, _, g, f, e => by cases e
  | n + 1, hn, g, f, e => by
    have ih := best_small h n (by omega)
    have hf := h n (by omega)
    have e : bestStep (bestOf day lamps ws k u n) n (fracOf day lamps (setAt ws k (begins u n))) = some (g, f) := e
    unfold bestStep at e
    cases e2 : bestOf day lamps ws k u n with
    | none => rw [e2] at e; cases e; exact hf
    | some p =>
      obtain ⟨g0, f0⟩ := p
      rw [e2] at e
      dsimp only at e
      split at e
      · cases e; exact hf
      · cases e; exact ih g f e2
theorem OkWs.begins {day : Int} {ws : List Walker} (h : OkWs day ws) {k : Nat} {u : Walker} (hu : ws[k]? = some u) {g : Nat} (hg : (g : Int) < day) : OkWs day (setAt ws k (begins u g)) := by
  have hk := (List.getElem?_eq_some_iff.mp hu).1
  have hgk := (List.getElem?_eq_some_iff.mp hu).2
  rw [setAt_eq hk]
  refine ⟨by rw [List.length_set]; exact h.n1, by rw [List.length_set]; exact h.n2, fun w hw => ?_, ?_⟩
  · rcases List.mem_or_eq_of_mem_set hw with z | z
    · exact h.wk w z
    · rw [z]
      obtain ⟨k1, k2, k3, k4, k5⟩ := h.wk u (List.mem_of_getElem? hu)
      exact ⟨k1, by show (0 : Int) ≤ (g : Int); omega, hg, k4, k5⟩
  · refine pairwise_asc _ ?_
    have hp := asc_pairwise ws h.asc
    have key : (ws.set k (DL.begins u g)).map (fun w => w.nm) = ws.map (fun w => w.nm) := by
      rw [List.map_set]
      show (ws.map fun w => w.nm).set k u.nm = _
      refine List.ext_getElem (by rw [List.length_set]) fun n h1 h2 => ?_
      rw [List.getElem_set]
      split
      · next e => subst e; rw [List.getElem_map, hgk]
      · rfl
    have h1 : ((ws.map fun w => w.nm)).Pairwise (fun a b => a.cps.toList < b.cps.toList) := List.pairwise_map.mpr hp
    rw [← key] at h1
    exact (List.pairwise_map (f := fun w : Walker => w.nm) (R := fun a b : Str => a.cps.toList < b.cps.toList)).mp h1
theorem Small.set {day : Int} {lamps : List Int} {ws : List Walker} {M : Nat} (h : Small day lamps ws M) {k : Nat} (hk : k < ws.length) {x : Walker} : Small day lamps (setAt ws k x) M :=
  ⟨fun y hy => by rw [setAt_len hk]; exact h.lp y hy, h.m1, h.pw⟩
def C_best : Ct := fun _ ds post => ∃ (day : Int) (lamps : List Int) (ws : List Walker) (M k : Nat) (u : Walker), ds = [.py (stairPy day lamps), .py (walkersPy ws), .py (.str u.nm)] ∧ OkStair day lamps ∧ OkWs day ws ∧ Small day lamps ws M ∧ day ≤ 200 ∧ ws[k]? = some u ∧ post (.py (bestP (bestOf day lamps ws k u day.toNat)))
abbrev s_by_days : Stmt := top 45
theorem sc_by_days : FnScope ["stair", "walkers", "top", "bottom", "landing", "found", "share"] ["stair", "walkers"] (defScope s_by_days) := ⟨rfl, rfl, rfl, by decide +kernel, rfl, by decide +kernel, by decide +kernel⟩
abbrev s_best_begin : Stmt := top 46
theorem sc_best_begin : FnScope ["stair", "walkers", "name", "names", "at", "best", "begin", "walker", "found"] ["stair", "walkers", "name"] (defScope s_best_begin) := ⟨rfl, rfl, rfl, by decide +kernel, rfl, by decide +kernel, by decide +kernel⟩
section
variable {P : Program} {w : World} {K : Kf} {mg : Str → Option Value} {base : Heap} {C : Addr}
theorem cal_by_days (d : Def K mg "by_days" s_by_days) (T : Bl mg) (X : PTxt K C) (c_pressing : Cal P w K mg base "pressing" ["stair", "walkers", "landing"] 6 (C_pressing C)) (c_common : Cal P w K mg base "common" ["one", "other"] 1 C_common) : Cal P w K mg base "by_days" ["stair", "walkers"] 7 C_bydaysP := by
  have tc := X.tc; have n_presses := X.presses; have n_days := X.days
  refine calD d sc_by_days (fun B ds post ⟨_, _, _, _, e, _⟩ => by subst e; exact ⟨rfl, fun d hd => by simp at hd; rcases hd with rfl | rfl <;> exact free_py⟩) (fun _ _ _ _ _ _ _ us hl => match us, hl with | [_, _], _ => rfl) (fun f cdv A outer s H E B ds post hr c => ⟨_, (psd_cons (psd_asgG (pd_tup (pda_cons pd_int (pda_cons pd_int pda_nil))) (pdg_tup rfl (pdgs_cons (pdg_name (i := 2) sc_by_days.nd rfl (Or.inl rfl)) (pdgs_cons (pdg_name (i := 3) sc_by_days.nd rfl (Or.inl rfl)) pdgs_nil)) (lg_cons rch_name (lg_cons rch_name lg_nil))))
        (psd_cons (psd_for PassesOwn.never rfl (pdi_range1 (by rfl) T.range (pd_len T (pd_ix (pd_var 0) pd_int))) (pdg_name (i := 4) sc_by_days.nd rfl (Or.inl rfl)) (psd_cons (psd_set (i := 5) sc_by_days.nd rfl (Or.inl rfl) (pd_cal c_pressing hr (pda_cons (pd_var 0) (pda_cons (pd_var 1) (pda_cons (pd_var 4) pda_nil)))))
        (psd_cons (psd_par (i := 2) (j := 3) rfl sc_by_days.nd rfl rfl (by decide) rfl rfl (pd_add (pd_mul (pd_var 2) (pd_fld tc n_days (pd_var 5))) (pd_mul (pd_fld tc n_presses (pd_var 5)) (pd_var 3))) (pd_mul (pd_var 3) (pd_fld tc n_days (pd_var 5))) (by rfl))
        (psd_cons (psd_set (i := 6) sc_by_days.nd rfl (Or.inl rfl) (pd_cal c_common hr (pda_cons (pd_var 2) (pda_cons (pd_var 3) pda_nil))))
        (psd_one (psd_par (i := 2) (j := 3) rfl sc_by_days.nd rfl rfl (by decide) rfl rfl (pd_fdiv (pd_var 2) (pd_var 6)) (pd_fdiv (pd_var 3) (pd_var 6)) (by rfl)))))))
        (psd_one (psd_ret (pd_tup (pda_cons (pd_var 2) (pda_cons (pd_var 3) pda_nil))))))), ?_⟩)
  obtain ⟨day, lamps, ws, M, rfl, os, ow, sm, hp⟩ := c
  have hpl : (pInts lamps).length = lamps.length := List.length_map ..
  have hl2 := os.l2
  refine at_st (S' := [some (.py (stairPy day lamps)), some (.py (walkersPy ws)), none, none, none, none, none]) rfl ?_
  walk_at "dl"
  rw [hpl]
  refine ⟨by omega, by omega, fun i S' => ∃ x4 x5 x6 : Option D, S' = [some (.py (stairPy day lamps)), some (.py (walkersPy ws)), some (.py (.int (redF (sumOf day lamps ws i)).1)), some (.py (.int (redF (sumOf day lamps ws i)).2)), x4, x5, x6], ⟨none, none, none, by rw [show redF (sumOf day lamps ws 0) = (0, 1) from redF01]; rfl⟩, ?_, ?_⟩
  · rintro i d S' hi ⟨x4, x5, x6, rfl⟩
    obtain ⟨hi1, rfl⟩ := range_get hi
    rw [Int.toNat_natCast] at hi1
    have ok : OkAsk day lamps ws i := ⟨os, ow, by omega, by omega⟩
    obtain ⟨FX, _⟩ := pfix ok.s ok.w ok.l0 ok.l1
    walk_at "dl"
    refine ⟨day, lamps, ws, i, rfl, ok, fun x rows pr dd a pd => ?_⟩
    obtain ⟨q, D, rfl, rfl, hq16, core⟩ := pd.all
    obtain ⟨d1, d2, q8⟩ := core_small ok sm core
    obtain ⟨s1, s2⟩ := sum_small os ow sm i (by omega)
    have hcq := coreQ_eq FX.d1 core
    have hnext : sumOf day lamps ws (i + 1) = addF (sumOf day lamps ws i) (q, D) := by
      show addF _ _ = _
      rw [hcq]
    have hred := red_add (s := sumOf day lamps ws i) (c := (q, D)) s1 d1
    rw [← hnext] at hred
    have hB : (redF (sumOf day lamps ws i)).2 * D ≤ M ^ (i + 1) := by
      rw [Nat.pow_succ]
      exact Nat.mul_le_mul (Nat.le_trans redF_le s2) d2
    have hpw := pow_small sm.m1 sm.pw (show i + 1 ≤ lamps.length by omega)
    have hpw2 := pow_small sm.m1 sm.pw (show i ≤ lamps.length by omega)
    have r1 := redF_pos s1
    have r2 : (redF (sumOf day lamps ws i)).2 ≤ _ := redF_le
    have hD : D ≤ M ^ lamps.length := Nat.le_trans d2 (by
      have := Nat.pow_le_pow_right sm.m1 (show 1 ≤ lamps.length by omega)
      rw [Nat.pow_one] at this; exact this)
    have hpw3 := sm.pw
    generalize redF (sumOf day lamps ws i) = rs at *
    obtain ⟨t, bb⟩ := rs
    walk_at "dl"
    refine ⟨cmul_r ⟨by omega, by omega⟩, cmul_l ⟨by omega, by omega⟩, cmul_r ⟨by omega, by omega⟩, ?_⟩
    have ec1 : (t : Int) * D + q * bb = ((t * D + q * bb : Nat) : Int) := by push_cast; rfl
    have ec2 : (bb : Int) * D = ((bb * D : Nat) : Int) := by push_cast; rfl
    rw [ec1, ec2]
    refine ⟨t * D + q * bb, bb * D, rfl, ?_⟩
    have hpos : 1 ≤ bb * D := Nat.mul_pos r1 d1
    have g1 : 0 < Nat.gcd (t * D + q * bb) (bb * D) := Nat.gcd_pos_of_pos_right _ hpos
    have g2 : Nat.gcd (t * D + q * bb) (bb * D) ≤ bb * D := Nat.le_of_dvd hpos (Nat.gcd_dvd_right ..)
    have hB : bb * D ≤ M ^ (i + 1) := hB
    walk_at "dl"
    refine ⟨⟨by omega, by omega⟩, ⟨by omega, by omega⟩, some (.py (.int i)), some (DL.D.ins x C (fldsP day (lampAt lamps i) (firstsOf lamps.length i ws) rows q D a)), some (.py (.int (Nat.gcd (t * D + q * bb) (bb * D) : Nat))), ?_⟩
    rw [← hred]
    rw [← Int.natCast_ediv, ← Int.natCast_ediv]
    rfl
  · rintro S' ⟨x4, x5, x6, rfl⟩
    rw [List.length_map, List.length_range, Int.toNat_natCast]
    walk_at "dl"
    exact hp
theorem cal_best_begin (d : Def K mg "best_begin" s_best_begin) (T : Bl mg) (TMOST : ∃ t, mg "MOST" = some (.int 200 t)) (c_need_house : Cal P w K mg base "need_house" ["stair", "walkers"] 4 C_needhouse) (c_by_days : Cal P w K mg base "by_days" ["stair", "walkers"] 7 C_bydaysP) : Cal P w K mg base "best_begin" ["stair", "walkers", "name"] 8 C_best := by
  refine calD d sc_best_begin (fun B ds post ⟨_, _, _, _, _, _, e, _⟩ => by subst e; exact ⟨rfl, fun d hd => by simp at hd; rcases hd with rfl | rfl | rfl <;> exact free_py⟩) (fun _ _ _ _ _ _ _ us hl => match us, hl with | [_, _, _], _ => rfl) (fun f cdv A outer s H E B ds post hr c => ⟨_, (psd_cons (psd_drop (pd_cal c_need_house hr (pda_cons (pd_var 0) (pda_cons (pd_var 1) pda_nil))))
        (psd_cons (psd_setLc (i := 3) (own := [("walker", 7)]) (g := (dgName 7)) (t := dYes) rfl sc_best_begin.nd rfl rfl (sw_true rfl rfl rfl (by decide +kernel)) (pdi_tup (pd_var 1)) (blkOk_by (N := ["stair", "walkers", "name", "names", "at", "best", "begin", "walker", "found"]) (sc := defScope s_best_begin) (by decide +kernel)) (fun _ _ _ _ _ => (pdg_name (i := 7) sc_best_begin.nd rfl (Or.inl rfl))) (fun _ _ _ _ _ => ptd_nil) (fun _ _ _ _ _ => (pd_ix (pd_var 7) pd_int)))
        (psd_cons (psd_if (PDW.t (pdw_or (pdt_not (pdt_val (pd_isi T (pd_var 2) (pd_ty (by rfl) T.str bo_str)))) (pdw_or1 (pdt_cmp op_notIn_seq od_notIn (pd_var 2) (pd_var 3) (by rfl))))) (psd_one psd_never) psd_nil)
        (psd_cons (psd_if (pdt_cmp op_gt od_gt (pd_ix (pd_var 0) pd_int) (pd_globI (by rfl) TMOST) (nomark _)) (psd_one psd_never) psd_nil)
        (psd_cons (psd_par (i := 4) (j := 5) rfl sc_best_begin.nd rfl rfl (by decide) rfl rfl (pd_index (pd_var 3) (pd_var 2) (fun ho ha => pe_bm PySem.F.plainAttrs_list PySem.F.slot_list_index PySem.F.type_list_index mt_index ho ha)) pd_non (by rfl))
        (psd_cons (psd_for PassesOwn.never rfl (pdi_range1 (by rfl) T.range (pd_ix (pd_var 0) pd_int)) (pdg_name (i := 6) sc_best_begin.nd rfl (Or.inl rfl)) (psd_cons (psd_set (i := 7) sc_best_begin.nd rfl (Or.inl rfl) (pd_add (pd_tup (pda_cons (pd_var 2) (pda_cons (pd_var 6) pda_nil))) (pd_slice (pd_ix (pd_var 1) (pd_var 4)) (pdo_some pd_int) pdo_none)))
        (psd_cons (psd_set (i := 8) sc_best_begin.nd rfl (Or.inl rfl) (pd_cal c_by_days hr (pda_cons (pd_var 0) (pda_cons (pd_add (pd_add (pd_slice (pd_var 1) pdo_none (pdo_some (pd_var 4))) (pd_tup (pda_cons (pd_var 7) pda_nil))) (pd_slice (pd_var 1) (pdo_some (pd_add (pd_var 4) pd_int)) pdo_none)) pda_nil))))
        (psd_one (psd_if (PDW.t (pdw_or (pdt_cmp op_isN od_isN (pd_var 5) pd_non (nomark _)) (pdw_or1 (pdt_cmp op_ltA od_ltA (pd_mul (pd_ix (pd_var 8) pd_int) (pd_ix (pd_ix (pd_var 5) pd_int) pd_int)) (pd_mul (pd_ix (pd_ix (pd_var 5) pd_int) pd_int) (pd_ix (pd_var 8) pd_int)) (nomark _))))) (psd_one (psd_set (i := 5) sc_best_begin.nd rfl (Or.inl rfl) (pd_tup (pda_cons (pd_var 6) (pda_cons (pd_var 8) pda_nil))))) psd_nil)))))
        (psd_one (psd_retV 5)))))))), ?_⟩)
  obtain ⟨day, lamps, ws, M, k, u, rfl, os, ow, sm, d200, hu, hp⟩ := c
  have hd1 := os.d1
  have hk := (List.getElem?_eq_some_iff.mp hu).1
  have hw8 := ow.n2
  refine at_st (S' := [some (.py (stairPy day lamps)), some (.py (walkersPy ws)), some (.py (.str u.nm)), none, none, none, none, none, none]) rfl ?_
  walk_at "dl"
  refine ⟨day, lamps, ws, rfl, os, ow, ?_⟩
  refine ⟨fun i acc => acc = (pStrs (ws.map (·.nm))).take i, rfl, ?_, ?_⟩
  · rintro i d acc hi rfl
    obtain ⟨v, hv, rfl⟩ := map_get hi
    have key : (pStrs (ws.map (·.nm)))[i]? = some (.str v.nm) := map_get2 (f := PyData.str) (map_get2 (f := fun x : Walker => x.nm) hv)
    have hi2 := (List.getElem?_eq_some_iff.mp hv).1
    walk_at "dl"
    refine ⟨?_, (take_more key).symm⟩
    rw [List.length_take]; omega
  rintro acc rfl
  have e1 : (ws.map Walker.py).length = (pStrs (ws.map (·.nm))).length := by rw [pStrs, List.length_map, List.length_map, List.length_map]
  rw [e1, List.take_length]
  have hnm : u.nm ∈ ws.map (·.nm) := List.mem_map.mpr ⟨u, List.mem_of_getElem? hu, rfl⟩
  have hany : (pStrs (ws.map (·.nm))).any (fun e => e.eqv (PyData.str u.nm)) = true := List.any_eq_true.mpr ⟨.str u.nm, List.mem_map.mpr ⟨_, hnm, rfl⟩, SeqAt.eqv_refl _ (SeqAt.canLay_of_shaped (Shp.str (k := 0) (name_strOk (ow.wk u (List.mem_of_getElem? hu)).1)).ok)⟩
  have hflat : (pStrs (ws.map (·.nm))).all flatP = true := List.all_eq_true.mpr fun x hx => by
    obtain ⟨z, _, rfl⟩ := List.mem_map.mp hx; rfl
  refine ⟨by decide, if_nb (fun z => absurd z (by decide)) fun _ => ⟨rfl, hflat, if_nb (fun z => by rw [hany] at z; cases z) fun _ => if_dec (fun z => absurd z (by omega)) fun _ => ?_⟩⟩
  have hnd : (ws.map (·.nm)).Nodup := by
    rw [List.Nodup, List.pairwise_map]
    exact (asc_pairwise ws ow.asc).imp fun {x y} h e => by
      have h : x.nm.cps.toList < y.nm.cps.toList := h
      have e : x.nm = y.nm := e
      rw [e] at h; exact List.lt_irrefl _ h
  have hgk : (ws.map (·.nm))[k]? = some u.nm := map_get2 (f := fun x : Walker => x.nm) hu
  refine ⟨ws.map (·.nm), rfl, u.nm, k, rfl, hgk, fun m hm e => ?_, ?_⟩
  · have hml := (List.getElem?_eq_some_iff.mp e).1
    exact List.pairwise_iff_getElem.mp hnd m k hml (List.getElem?_eq_some_iff.mp hgk).1 hm ((List.getElem?_eq_some_iff.mp e).2.trans (List.getElem?_eq_some_iff.mp hgk).2.symm)
  have hat : atI (ws.map Walker.py) (k : Int) = some u.py := atI_nat (map_get2 (f := Walker.py) hu)
  have hF : ∀ g : Nat, (g : Int) < day → 1 ≤ (fracOf day lamps (setAt ws k (begins u g))).2 ∧ (fracOf day lamps (setAt ws k (begins u g))).2 < 1073741824 := fun g hg => by
    obtain ⟨s1, s2⟩ := sum_small os (ow.begins hu hg) (sm.set hk) lamps.length (Nat.le_refl _)
    have := sm.pw
    exact ⟨redF_pos s1, Nat.lt_of_le_of_lt (Nat.le_trans redF_le s2) this⟩
  refine ⟨by omega, by omega, fun i S' => ∃ x6 x7 x8 : Option D, S' = [some (.py (stairPy day lamps)), some (.py (walkersPy ws)), some (.py (.str u.nm)), some (.py (.list (pStrs (ws.map (·.nm))))), some (.py (.int k)), some (.py (bestP (bestOf day lamps ws k u i))), x6, x7, x8], ⟨none, none, none, rfl⟩, ?_, ?_⟩
  · rintro i d S' hi ⟨x6, x7, x8, rfl⟩
    obtain ⟨hi1, rfl⟩ := range_get hi
    have hid : (i : Int) < day := by omega
    walk_at "dl"
    rw [hat]
    walk_at "dl"
    rw [show (some (2 : Int)) = some ((2 : Nat) : Int) from rfl, cut_from, show ((k : Int) + 1) = ((k + 1 : Nat) : Int) by push_cast; rfl, cut_to, cut_from]
    have hsa : (ws.map Walker.py).take k ++ [(begins u i).py] ++ (ws.map Walker.py).drop (k + 1) = (setAt ws k (begins u i)).map Walker.py := map_setAt
    have hsa2 : (ws.map Walker.py).take k ++ [PyData.tuple ([PyData.str u.nm, PyData.int i] ++ List.drop 2 [PyData.str u.nm, PyData.int u.bg, PyData.int u.pc, PyData.str u.way])] ++ (ws.map Walker.py).drop (k + 1) = (setAt ws k (begins u i)).map Walker.py := hsa
    have l4 : (ws.map Walker.py).length = ws.length := List.length_map ..
    refine ⟨by show 2 + 2 ≤ 16000000; decide, by rw [List.length_take]; omega, by rw [List.length_append, List.length_take, List.length_drop, List.length_singleton]; omega, ?_⟩
    rw [hsa2]
    have owb := ow.begins hu hid
    have hf := hF i hid
    have hbest : bestOf day lamps ws k u (i + 1) = bestStep (bestOf day lamps ws k u i) i (fracOf day lamps (setAt ws k (begins u i))) := rfl
    have hbs := best_small (F := 1073741823) (fun g hg => Nat.le_of_lt_succ (hF g hg).2) i (by omega)
    refine ⟨day, lamps, _, M, rfl, os, owb, sm.set hk, ?_⟩
    rw [hbest]
    generalize fracOf day lamps (setAt ws k (begins u i)) = ff at *
    obtain ⟨t, bb⟩ := ff
    cases hbo : bestOf day lamps ws k u i with
    | none =>
      unfold bestP bestStep
      walk_at "dl"
      exact ⟨_, _, _, rfl⟩
    | some p =>
      obtain ⟨g0, f0⟩ := p
      have hb0 := hbs g0 f0 hbo
      obtain ⟨t0, b0⟩ := f0
      have hb0 : b0 ≤ 1073741823 := hb0
      have hf2 : bb < 1073741824 := hf.2
      unfold bestP bestStep
      walk_at "dl"
      rw [if_neg Bool.false_ne_true]
      refine ⟨cmul_r ⟨by omega, by omega⟩, cmul_r ⟨by omega, by omega⟩, if_dec (fun h => ?_) (fun h => ?_)⟩
      · rw [if_pos h]; exact ⟨_, _, _, rfl⟩
      · rw [if_neg h]; exact ⟨_, _, _, rfl⟩
  · rintro S' ⟨x6, x7, x8, rfl⟩
    rw [List.length_map, List.length_range]
    walk_at "dl"
    exact hp
end
/-! ### papers -/
theorem any_lc {ds : List PyData} {post : D → Prop} (g : PyData → Bool) (R : PyData → (D → Prop) → Prop) (hl : ds.length ≤ 16000000) (hR : ∀ (i : Nat) (d : PyData), ds[i]? = some d → ∀ p : D → Prop, p (.py (.bool (g d))) → R d p) (hp : post (.py (.bool (ds.any g)))) :
    ∃ Iv : Nat → List PyData → Prop, Iv 0 [] ∧ (∀ (i : Nat) (d : PyData) (acc : List PyData), ds[i]? = some d → Iv i acc → R d (fun y => match y with | .py q => acc.length < 16000000 ∧ Iv (i + 1) (acc ++ [q]) | _ => False)) ∧
      ∀ acc, Iv ds.length acc → ∃ bs : List Bool, some acc = some (bs.map PyData.bool) ∧ post (.py (.bool (bs.any id))) := by
  refine ⟨fun i acc => acc = ((ds.map fun d => PyData.bool (g d))).take i, rfl, ?_, ?_⟩
  · rintro i d acc hi rfl
    have key : (ds.map fun d => PyData.bool (g d))[i]? = some (PyData.bool (g d)) := by rw [List.getElem?_map, hi]; rfl
    refine hR i d hi _ ⟨?_, (take_more key).symm⟩
    rw [List.length_take, List.length_map]
    have := (List.getElem?_eq_some_iff.mp hi).1
    omega
  · rintro acc rfl
    refine ⟨ds.map g, ?_, ?_⟩
    · rw [List.take_of_length_le (by rw [List.length_map]; exact Nat.le_refl _), List.map_map]; rfl
    · rw [List.any_map]; exact hp
abbrev TenForty : Int := 10000000000000000000000000000000000000000
def tickB (d : PyData) : Bool := withinB d 0 TenForty
def pairI : PyData → Bool
  | .tuple [.int a, .int b] => decide (a < b)
  | _ => false
def ticksB (d : PyData) : Bool := match d with
  | .tuple l => l.all tickB && (zipP l (l.drop 1)).all pairI
  | _ => false
def intsOf (d : PyData) : List Int := match d with
  | .tuple l => l.filterMap fun x => match x with | .int i => some i | _ => none
  | _ => []
def shortQ (q : PyData) : Prop := ∀ l, q = .tuple l → l.length ≤ 1000000
theorem tickB_int {d : PyData} (h : tickB d = true) : ∃ i : Int, d = .int i ∧ 0 ≤ i ∧ i ≤ TenForty := by
  cases d with
  | int i =>
    unfold tickB withinB at h
    simp only [Bool.and_eq_true, decide_eq_true_eq] at h
    exact ⟨i, rfl, h⟩
  | _ => cases h
theorem ints_tick : ∀ {l : List PyData}, l.all tickB = true → l = pInts (intsOf (.tuple l))
  | [], _ => rfl
  | d :: l, h => by
    rw [List.all_cons, Bool.and_eq_true] at h
    obtain ⟨i, rfl, _⟩ := tickB_int h.1
    have ih := ints_tick h.2
    show PyData.int i :: l = PyData.int i :: pInts (intsOf (.tuple l))
    rw [← ih]
theorem zip_ints : ∀ xs : List Int, (zipP (pInts xs) ((pInts xs).drop 1)).all pairI = true → xs.Pairwise (· < ·)
  | [], _ => List.Pairwise.nil
  | [a], _ => List.pairwise_singleton _ _
  | a :: b :: l, h => by
    have h : (decide (a < b) && (zipP (pInts (b :: l)) ((pInts (b :: l)).drop 1)).all pairI) = true := h
    rw [Bool.and_eq_true, decide_eq_true_eq] at h
    have ih := zip_ints (b :: l) h.2
    refine List.pairwise_cons.mpr ⟨fun x hx => ?_, ih⟩
    rcases List.mem_cons.mp hx with e | e
    · rw [e]; exact h.1
    · have := (List.pairwise_cons.mp ih).1 x e; omega
theorem ints_zip : ∀ xs : List Int, xs.Pairwise (· < ·) → (zipP (pInts xs) ((pInts xs).drop 1)).all pairI = true
  | [], _ => rfl
  | [a], _ => rfl
  | a :: b :: l, h => by
    rw [List.pairwise_cons] at h
    show (decide (a < b) && (zipP (pInts (b :: l)) ((pInts (b :: l)).drop 1)).all pairI) = true
    rw [ints_zip (b :: l) h.2, Bool.and_true]
    exact decide_eq_true (h.1 b (List.mem_cons_self ..))
theorem ticksB_shape {d : PyData} (h : ticksB d = true) : d = .tuple (pInts (intsOf d)) ∧ (∀ x ∈ intsOf d, 0 ≤ x ∧ x ≤ TenForty) ∧ (intsOf d).Pairwise (· < ·) := by
  cases d with
  | tuple l =>
    unfold ticksB at h
    rw [Bool.and_eq_true] at h
    have e := ints_tick h.1
    refine ⟨by rw [← e], fun x hx => ?_, ?_⟩
    · have hm : PyData.int x ∈ l := by rw [e]; exact List.mem_map.mpr ⟨x, hx, rfl⟩
      obtain ⟨i, e2, h2⟩ := tickB_int (List.all_eq_true.mp h.1 _ hm)
      cases e2; exact h2
    · have h2 := h.2
      rw [e] at h2
      exact zip_ints _ h2
  | _ => cases h
theorem intsOf_pInts (xs : List Int) : intsOf (.tuple (pInts xs)) = xs := by
  show (pInts xs).filterMap _ = xs
  rw [List.filterMap_map]
  induction xs with
  | nil => rfl
  | cons a l ih => rw [List.filterMap_cons]; exact congrArg (a :: ·) ih
theorem ticksB_ints {xs : List Int} (h1 : ∀ x ∈ xs, 0 ≤ x ∧ x ≤ TenForty) (h2 : xs.Pairwise (· < ·)) : ticksB (.tuple (pInts xs)) = true := by
  unfold ticksB
  rw [Bool.and_eq_true]
  refine ⟨List.all_eq_true.mpr fun d hd => ?_, ints_zip xs h2⟩
  obtain ⟨x, hx, rfl⟩ := List.mem_map.mp hd
  unfold tickB withinB
  simp only [Bool.and_eq_true, decide_eq_true_eq]
  exact h1 x hx
def coverB (xs : List Int) (B t : Int) : Bool := xs.any fun x => decide (x ≤ t) && decide (t < x + B)
def keepB (n : Nat) (day landing fin B : Int) (ws : List Walker) (q : PyData) : Bool := ticksB q && (List.range fin.toNat).all fun t => decide (comersOf n day landing ws t = []) || coverB (intsOf q) B t
def apartB (B : Int) (d : PyData) : Bool := match d with
  | .tuple [.int a, .int b] => decide (B ≤ b - a)
  | _ => false
def lotB (n : Nat) (day landing fin B : Int) (ws : List Walker) (q : PyData) : Bool := ticksB q && ((intsOf q).all fun x => decide (x < fin)) && ((intsOf q).all fun x => !decide (comersOf n day landing ws x = [])) && (zipP (pInts (intsOf q)) ((pInts (intsOf q)).drop 1)).all (apartB B)
def C_needasked : Ct := fun _ ds post => ∃ (day : Int) (lamps : List Int) (ws : List Walker) (landing fin : Int), ds = [.py (stairPy day lamps), .py (walkersPy ws), .py (.int landing), .py (.int fin)] ∧ OkAsk day lamps ws landing ∧ 0 ≤ fin ∧ fin ≤ 2000 ∧ post (.py .none)
def C_lot : Ct := fun _ ds post => ∃ (day : Int) (lamps : List Int) (ws : List Walker) (landing fin : Int), ds = [.py (stairPy day lamps), .py (walkersPy ws), .py (.int landing), .py (.int fin)] ∧ OkAsk day lamps ws landing ∧ 0 ≤ fin ∧ fin ≤ 2000 ∧ ∀ m : Nat, IsN day (lampAt lamps landing) (firstsOf lamps.length landing ws) fin m → post (.py (.tuple (pInts (ticksTo day (lampAt lamps landing) (firstsOf lamps.length landing ws) m))))
def C_areticks : Ct := fun _ ds post => ∃ q : PyData, ds = [.py q] ∧ shortQ q ∧ post (.py (.bool (ticksB q)))
def C_arekeeping : Ct := fun _ ds post => ∃ (day : Int) (lamps : List Int) (ws : List Walker) (landing fin : Int) (q : PyData), ds = [.py (stairPy day lamps), .py (walkersPy ws), .py (.int landing), .py (.int fin), .py q] ∧ OkAsk day lamps ws landing ∧ 0 ≤ fin ∧ fin ≤ 2000 ∧ shortQ q ∧ post (.py (.bool (keepB lamps.length day landing fin (lampAt lamps landing) ws q)))
def C_islot : Ct := fun _ ds post => ∃ (day : Int) (lamps : List Int) (ws : List Walker) (landing fin : Int) (q : PyData), ds = [.py (stairPy day lamps), .py (walkersPy ws), .py (.int landing), .py (.int fin), .py q] ∧ OkAsk day lamps ws landing ∧ 0 ≤ fin ∧ fin ≤ 2000 ∧ shortQ q ∧ post (.py (.bool (lotB lamps.length day landing fin (lampAt lamps landing) ws q)))
abbrev s_need_asked : Stmt := top 35
theorem sc_need_asked : FnScope ["stair", "walkers", "landing", "end"] ["stair", "walkers", "landing", "end"] (defScope s_need_asked) := ⟨rfl, rfl, rfl, by decide +kernel, rfl, by decide +kernel, by decide +kernel⟩
abbrev s_lot : Stmt := top 36
theorem sc_lot : FnScope ["stair", "walkers", "landing", "end", "found", "place"] ["stair", "walkers", "landing", "end"] (defScope s_lot) := ⟨rfl, rfl, rfl, by decide +kernel, rfl, by decide +kernel, by decide +kernel⟩
abbrev s_are_ticks : Stmt := top 37
theorem sc_are_ticks : FnScope ["thing", "one", "other", "tick"] ["thing"] (defScope s_are_ticks) := ⟨rfl, rfl, rfl, by decide +kernel, rfl, by decide +kernel, by decide +kernel⟩
abbrev s_are_keeping : Stmt := top 38
theorem sc_are_keeping : FnScope ["stair", "walkers", "landing", "end", "thing", "burning", "tick", "one"] ["stair", "walkers", "landing", "end", "thing"] (defScope s_are_keeping) := ⟨rfl, rfl, rfl, by decide +kernel, rfl, by decide +kernel, by decide +kernel⟩
abbrev s_is_lot : Stmt := top 39
theorem sc_is_lot : FnScope ["stair", "walkers", "landing", "end", "thing", "one", "other", "tick"] ["stair", "walkers", "landing", "end", "thing"] (defScope s_is_lot) := ⟨rfl, rfl, rfl, by decide +kernel, rfl, by decide +kernel, by decide +kernel⟩
section
variable {P : Program} {w : World} {K : Kf} {mg : Str → Option Value} {base : Heap} {C : Addr}
theorem cal_need_asked (d : Def K mg "need_asked" s_need_asked) (T : Bl mg) (TLAST : ∃ t, mg "LAST" = some (.int 2000 t)) (c_need_landing : Cal P w K mg base "need_landing" ["stair", "walkers", "landing"] 5 C_needlanding) (c_need_tick : Cal P w K mg base "need_tick" ["tick", "last"] 2 C_needtick) : Cal P w K mg base "need_asked" ["stair", "walkers", "landing", "end"] 6 C_needasked := by
  refine calD d sc_need_asked (fun B ds post ⟨_, _, _, _, _, e, _⟩ => by subst e; exact ⟨rfl, fun d hd => by simp at hd; rcases hd with rfl | rfl | rfl | rfl <;> exact free_py⟩) (fun _ _ _ _ _ _ _ us hl => match us, hl with | [_, _, _, _], _ => rfl) (fun f cdv A outer s H E B ds post hr c => ⟨_, (psd_cons (psd_drop (pd_cal c_need_landing hr (pda_cons (pd_var 0) (pda_cons (pd_var 1) (pda_cons (pd_var 2) pda_nil)))))
        (psd_one (psd_drop (pd_cal c_need_tick hr (pda_cons (pd_var 3) (pda_cons (pd_globI (by rfl) TLAST) pda_nil)))))), ?_⟩)
  obtain ⟨day, lamps, ws, landing, fin, rfl, ok, f0, f1, hp⟩ := c
  refine at_st (S' := [some (.py (stairPy day lamps)), some (.py (walkersPy ws)), some (.py (.int landing)), some (.py (.int fin))]) rfl ?_
  walk_at "dl"
  exact ⟨day, lamps, ws, landing, rfl, ok.s, ok.w, ok.l0, ok.l1, fin, _, rfl, f0, f1, hp⟩
theorem cal_lot (d : Def K mg "lot" s_lot) (T : Bl mg) (X : PTxt K C) (c_need_asked : Cal P w K mg base "need_asked" ["stair", "walkers", "landing", "end"] 6 C_needasked) (c_pressing : Cal P w K mg base "pressing" ["stair", "walkers", "landing"] 6 (C_pressing C)) (m_at : CalM P w K mg base C "at" ["self", "place"] 1 (C_at C)) (m_until : CalM P w K mg base C "until" ["self", "tick"] 2 (C_until C)) : Cal P w K mg base "lot" ["stair", "walkers", "landing", "end"] 7 C_lot := by
  have tc := X.tc
  refine calD d sc_lot (fun B ds post ⟨_, _, _, _, _, e, _⟩ => by subst e; exact ⟨rfl, fun d hd => by simp at hd; rcases hd with rfl | rfl | rfl | rfl <;> exact free_py⟩) (fun _ _ _ _ _ _ _ us hl => match us, hl with | [_, _, _, _], _ => rfl) (fun f cdv A outer s H E B ds post hr c => ⟨_, (psd_cons (psd_drop (pd_cal c_need_asked hr (pda_cons (pd_var 0) (pda_cons (pd_var 1) (pda_cons (pd_var 2) (pda_cons (pd_var 3) pda_nil))))))
        (psd_cons (psd_set (i := 4) sc_lot.nd rfl (Or.inr rfl) (pd_cal c_pressing hr (pda_cons (pd_var 0) (pda_cons (pd_var 1) (pda_cons (pd_var 2) pda_nil)))))
        (psd_one (psd_ret (pd_tupleOf T (pd_lc (own := [("place", 5)]) (g := (dgName 5)) (t := dYes) rfl sc_lot.nd (pdi_range1 (by rfl) T.range (pd_met tc m_until hr (pd_var 4) (pda_cons (pd_var 3) pda_nil))) (blkOk_by (N := ["stair", "walkers", "landing", "end", "found", "place"]) (sc := defScope s_lot) (by decide +kernel)) (fun _ _ _ _ _ => (pdg_name (i := 5) sc_lot.nd rfl (Or.inl rfl))) (fun _ _ _ _ _ => ptd_nil) (fun _ _ _ _ _ => (pd_ix (pd_met tc m_at hr (pd_var 4) (pda_cons (pd_var 5) pda_nil)) pd_int)))))))), ?_⟩)
  obtain ⟨day, lamps, ws, landing, fin, rfl, ok, f0, f1, hp⟩ := c
  refine at_st (S' := [some (.py (stairPy day lamps)), some (.py (walkersPy ws)), some (.py (.int landing)), some (.py (.int fin)), none, none]) rfl ?_
  obtain ⟨FX, hstr⟩ := pfix ok.s ok.w ok.l0 ok.l1
  walk_at "dl"
  refine ⟨day, lamps, ws, landing, fin, rfl, ok, f0, f1, day, lamps, ws, landing, rfl, ok, fun x rows pr dd a pd => ?_⟩
  walk_at "dl"
  refine ⟨x, day, _, _, rows, _, _, _, fin, rfl, pd.row, f0, by omega, fun m k1 k2 => ?_⟩
  have hm : IsN day (lampAt lamps landing) (firstsOf lamps.length landing ws) fin m := ⟨k1, k2⟩
  have hm16 : m ≤ 2000 := by
    cases m with
    | zero => omega
    | succ n =>
      have h1 := vis_nn FX.d1 FX.b1 FX.ne (burning := lampAt lamps landing) n
      have h2 := hm.lt n (by omega)
      omega
  walk_at "dl"
  refine ⟨by omega, by omega, fun i acc => acc = pInts ((ticksTo day (lampAt lamps landing) (firstsOf lamps.length landing ws) m).take i), rfl, ?_, ?_⟩
  · rintro i d acc hi rfl
    obtain ⟨hi1, rfl⟩ := range_get hi
    rw [Int.toNat_natCast] at hi1
    have key : (ticksTo day (lampAt lamps landing) (firstsOf lamps.length landing ws) m)[i]? = some (vis day (lampAt lamps landing) (firstsOf lamps.length landing ws) i).1 := by unfold ticksTo; rw [List.getElem?_map, List.getElem?_range hi1]; rfl
    walk_at "dl"
    refine ⟨x, day, _, _, rows, _, _, _, i, rfl, pd.row, by omega, ?_⟩
    unfold rowP
    walk_at "dl"
    refine ⟨?_, by rw [take_more key, snoc_int]⟩
    rw [List.length_map, List.length_take]; omega
  rintro acc rfl
  rw [List.length_map, List.length_range, Int.toNat_natCast, List.take_of_length_le (by unfold ticksTo; rw [List.length_map, List.length_range]; exact Nat.le_refl _)]
  exact hp m hm
theorem cal_are_ticks (d : Def K mg "are_ticks" s_are_ticks) (T : Bl mg) (c_is_within : Cal P w K mg base "is_within" ["thing", "low", "high"] 1 C_within) : Cal P w K mg base "are_ticks" ["thing"] 2 C_areticks := by
  refine calD d sc_are_ticks (fun B ds post ⟨_, e, _⟩ => by subst e; exact ⟨rfl, fun d hd => by simp at hd; rcases hd with rfl; exact free_py⟩) (fun _ _ _ _ _ _ _ us hl => match us, hl with | [_], _ => rfl) (fun f cdv A outer s H E B ds post hr c => ⟨_, (psd_cons (psd_if (PDW.t (pdw_or (pdt_not (pdt_val (pd_isi T (pd_var 0) (pd_ty (by rfl) T.tuple bo_tuple)))) (pdw_or1 (pdt_not (pdt_val (pd_all T rfl (pd_lc (own := [("tick", 3)]) (g := (dgName 3)) (t := dYes) rfl sc_are_ticks.nd (pdi_tup (pd_var 0)) (blkOk_by (N := ["thing", "one", "other", "tick"]) (sc := defScope s_are_ticks) (by decide +kernel)) (fun _ _ _ _ _ => (pdg_name (i := 3) sc_are_ticks.nd rfl (Or.inl rfl))) (fun _ _ _ _ _ => ptd_nil) (fun _ _ _ _ _ => (pd_cal c_is_within hr (pda_cons (pd_var 3) (pda_cons pd_int (pda_cons (pd_pow (n := 10000000000000000000000000000000000000000)) pda_nil)))))))))))) (psd_one (psd_ret pd_bl)) psd_nil)
        (psd_one (psd_ret (pd_all T rfl (pd_lc (own := [("one", 1), ("other", 2)]) (g := (dgTup (dgCons (dgName 1) (dgCons (dgName 2) dgNil)))) (t := dYes) rfl sc_are_ticks.nd (pdi_zip (by rfl) T.zip (pd_var 0) (pd_slice (pd_var 0) (pdo_some pd_int) pdo_none)) (blkOk_by (N := ["thing", "one", "other", "tick"]) (sc := defScope s_are_ticks) (by decide +kernel)) (fun _ _ _ _ _ => (pdg_tup rfl (pdgs_cons (pdg_name (i := 1) sc_are_ticks.nd rfl (Or.inl rfl)) (pdgs_cons (pdg_name (i := 2) sc_are_ticks.nd rfl (Or.inl rfl)) pdgs_nil)) (lg_cons rch_name (lg_cons rch_name lg_nil)))) (fun _ _ _ _ _ => ptd_nil) (fun _ _ _ _ _ => (pd_cmp op_ltA od_ltA (pd_var 1) (pd_var 2) (nomark _)))))))), ?_⟩)
  obtain ⟨q, rfl, hq, hp⟩ := c
  refine at_st (S' := [some (.py q), none, none, none]) rfl ?_
  cases q with
  | tuple l =>
    have hl := hq l rfl
    unfold ticksB at hp
    walk_at "dl"
    refine ⟨by decide, if_f rfl ?_⟩
    refine all_lc (post := fun d => dB (dC d) [] fun k => if (!k) = true then post (D.py (.bool false)) else _) tickB (fun d p => C_within B [D.py d, D.py (PyData.int 0), D.py (PyData.int 10000000000000000000000000000000000000000)] p) (by omega) (fun i d hd p hp => ⟨d, _, _, rfl, hp⟩) ?_
    walk_at "dl"
    refine if_nb (fun h3 => ?_) (fun h3 => ?_)
    · simp only [h3, Bool.false_and] at hp; exact hp
    · simp only [h3, Bool.true_and] at hp
      rw [show (some (1 : Int)) = some ((1 : Nat) : Int) from rfl, cut_from]
      have hz : (zipP l (l.drop 1)).length ≤ l.length := by unfold zipP; rw [List.length_zipWith]; exact Nat.min_le_left _ _
      refine ⟨fun i acc => acc = ((zipP l (l.drop 1)).map fun d => PyData.bool (pairI d)).take i, rfl, ?_, ?_⟩
      · rintro i d acc hi rfl
        obtain ⟨x, y, hx, hy, rfl⟩ := zip_get hi
        have hx := List.mem_of_getElem? hx
        have hy := List.mem_of_mem_drop (List.mem_of_getElem? hy)
        obtain ⟨x, rfl, _⟩ := tickB_int (List.all_eq_true.mp h3 x hx)
        obtain ⟨y, rfl, _⟩ := tickB_int (List.all_eq_true.mp h3 y hy)
        walk_at "dl"
        have key : ((zipP l (l.drop 1)).map fun d => PyData.bool (pairI d))[i]? = some (.bool (decide (x < y))) := by rw [List.getElem?_map, hi]; rfl
        refine ⟨?_, (take_more key).symm⟩
        rw [List.length_take]
        have := (List.getElem?_eq_some_iff.mp hi).1
        omega
      · rintro acc rfl
        refine ⟨(zipP l (l.drop 1)).map pairI, ?_, ?_⟩
        · rw [List.take_of_length_le (by rw [List.length_map]; exact Nat.le_refl _), List.map_map]; rfl
        · rw [List.all_map]; exact hp
  | _ =>
    walk_at "dl"
    exact ⟨by decide, hp⟩
end
theorem nil_shp : SeqAt.shaped (.list []) = true := (Shp.ints (k := 0) (l := [])).ok
theorem eqv_nil {l : List Str} : (PyData.list (pStrs l)).eqv (.list []) = decide (l = []) := by
  cases l with
  | nil =>
    show (PyData.list []).eqv (.list []) = _
    rw [SeqAt.eqv_refl _ (SeqAt.canLay_of_shaped nil_shp), decide_eq_true rfl]
  | cons a r => rw [decide_eq_false (by simp)]; rfl
theorem bools_end {α : Type} {l : List α} {g : α → Bool} {n : Nat} (h : n = l.length) : some ((((l.map g).map PyData.bool)).take n) = some ((l.map g).map PyData.bool) := by
  rw [List.take_of_length_le (by rw [List.length_map, List.length_map, h]; exact Nat.le_refl _)]
section
variable {P : Program} {w : World} {K : Kf} {mg : Str → Option Value} {base : Heap} {C : Addr}
theorem cal_are_keeping (d : Def K mg "are_keeping" s_are_keeping) (T : Bl mg) (c_need_asked : Cal P w K mg base "need_asked" ["stair", "walkers", "landing", "end"] 6 C_needasked) (c_are_ticks : Cal P w K mg base "are_ticks" ["thing"] 2 C_areticks) (o_who_come : CalO P w K mg base "who_come" ["stair", "walkers", "landing", "tick"] 2 C_whocome) : Cal P w K mg base "are_keeping" ["stair", "walkers", "landing", "end", "thing"] 7 C_arekeeping := by
  have c_who_come := Cal.ofO o_who_come
  refine calD d sc_are_keeping (fun B ds post ⟨_, _, _, _, _, _, e, _⟩ => by subst e; exact ⟨rfl, fun d hd => by simp at hd; rcases hd with rfl | rfl | rfl | rfl | rfl <;> exact free_py⟩) (fun _ _ _ _ _ _ _ us hl => match us, hl with | [_, _, _, _, _], _ => rfl) (fun f cdv A outer s H E B ds post hr c => ⟨_, (psd_cons (psd_drop (pd_cal c_need_asked hr (pda_cons (pd_var 0) (pda_cons (pd_var 1) (pda_cons (pd_var 2) (pda_cons (pd_var 3) pda_nil))))))
        (psd_cons (psd_if (pdt_not (pdt_val (pd_cal c_are_ticks hr (pda_cons (pd_var 4) pda_nil)))) (psd_one (psd_ret pd_bl)) psd_nil)
        (psd_cons (psd_set (i := 5) sc_are_keeping.nd rfl (Or.inr rfl) (pd_ix (pd_ix (pd_var 0) pd_int) (pd_var 2)))
        (psd_cons (psd_for PassesOwn.never rfl (pdi_range1 (by rfl) T.range (pd_var 3)) (pdg_name (i := 6) sc_are_keeping.nd rfl (Or.inr rfl)) (psd_one (psd_if (pdt_cmp (op_neA hr.units) od_ne (pd_cal c_who_come hr (pda_cons (pd_var 0) (pda_cons (pd_var 1) (pda_cons (pd_var 2) (pda_cons (pd_var 6) pda_nil))))) (pd_lst pda_nil) (nomark _)) (psd_one (psd_if (pdt_not (pdt_val (pd_any T rfl (pd_lc (own := [("one", 7)]) (g := (dgName 7)) (t := dYes) rfl sc_are_keeping.nd (pdi_tup (pd_var 4)) (blkOk_by (N := ["stair", "walkers", "landing", "end", "thing", "burning", "tick", "one"]) (sc := defScope s_are_keeping) (by decide +kernel)) (fun _ _ _ _ _ => (pdg_name (i := 7) sc_are_keeping.nd rfl (Or.inl rfl))) (fun _ _ _ _ _ => ptd_nil) (fun _ _ _ _ _ => (pd_chain op_le op_ltA od_le od_ltA (pd_var 7) (pd_var 6) (pd_add (pd_var 7) (pd_var 5)))))))) (psd_one (psd_ret pd_bl)) psd_nil)) psd_nil)))
        (psd_one (psd_ret pd_bl)))))), ?_⟩)
  obtain ⟨day, lamps, ws, landing, fin, q, rfl, ok, f0, f1, hq, hp⟩ := c
  refine at_st (S' := [some (.py (stairPy day lamps)), some (.py (walkersPy ws)), some (.py (.int landing)), some (.py (.int fin)), some (.py q), none, none, none]) rfl ?_
  obtain ⟨ela, _⟩ := lamp_at ok.l0 ok.l1
  walk_at "dl"
  refine ⟨day, lamps, ws, landing, fin, rfl, ok, f0, f1, q, rfl, hq, ?_⟩
  walk_at "dl"
  unfold keepB at hp
  refine if_nb (fun h => ?_) (fun h => ?_)
  · simp only [h, Bool.false_and] at hp; exact hp
  simp only [h, Bool.true_and] at hp
  obtain ⟨eq_, hx1, hx2⟩ := ticksB_shape h
  generalize intsOf q = xs at *
  subst eq_
  have hxl : xs.length ≤ 1000000 := by have := hq _ rfl; rw [List.length_map] at this; exact this
  rw [ela]
  walk_at "dl"
  generalize hB : lampAt lamps landing = Bn at *
  have hall : ∀ (t : Nat), (t : Int) < fin → ((List.range fin.toNat).all fun t => decide (comersOf lamps.length day landing ws t = []) || coverB xs Bn t) = true → comersOf lamps.length day landing ws t = [] ∨ coverB xs Bn t = true := fun t ht ha => by
    have := List.all_eq_true.mp ha t (List.mem_range.mpr (by omega))
    simp only [Bool.or_eq_true, decide_eq_true_eq] at this
    exact this
  refine ⟨by omega, by omega, fun i S' => (∀ t : Nat, t < i → (decide (comersOf lamps.length day landing ws t = []) || coverB xs Bn t) = true) ∧ ∃ x6 : Option D, S' = [some (.py (stairPy day lamps)), some (.py (walkersPy ws)), some (.py (.int landing)), some (.py (.int fin)), some (.py (.tuple (pInts xs))), some (.py (.int Bn)), x6, none], ⟨fun t ht => absurd ht (by omega), _, rfl⟩, ?_, ?_⟩
  · rintro i d S' hi ⟨hdone, x6, rfl⟩
    obtain ⟨hi1, rfl⟩ := range_get hi
    walk_at "dl"
    refine ⟨day, lamps, ws, landing, i, rfl, ok.s.d1, by have := ok.w.n2; omega, fun u hu => ⟨(ok.w.wk u hu).2.2.2.1, by have := (ok.w.wk u hu).2.2.2.2; omega⟩, ?_⟩
    unfold froz
    walk_at "dl"
    have hsh : SeqAt.shaped (.list (pStrs (comersOf lamps.length day landing ws i))) = true := (Shp.strs (k := 0) (comers_ok ok.w)).ok
    refine ⟨hsh, nil_shp, ?_⟩
    rw [eqv_nil]
    refine if_ndec (fun hne => ?_) (fun he => ⟨fun t ht => ?_, _, rfl⟩)
    · refine ⟨fun j acc => acc = (((xs.map fun x => decide (x ≤ (i : Int)) && decide ((i : Int) < x + Bn))).map PyData.bool).take j, rfl, ?_, ?_⟩
      · rintro j d acc hj rfl
        obtain ⟨x, hx, rfl⟩ := map_get hj
        have key : (((xs.map fun x => decide (x ≤ (i : Int)) && decide ((i : Int) < x + Bn))).map PyData.bool)[j]? = some (.bool (decide (x ≤ (i : Int)) && decide ((i : Int) < x + Bn))) := map_get2 (f := PyData.bool) (map_get2 (f := fun x => decide (x ≤ (i : Int)) && decide ((i : Int) < x + Bn)) hx)
        have hj2 := (List.getElem?_eq_some_iff.mp hx).1
        have hlt : ((((xs.map fun x => decide (x ≤ (i : Int)) && decide ((i : Int) < x + Bn))).map PyData.bool).take j).length < 16000000 := by rw [List.length_take]; omega
        walk_at "dl"
        refine if_dec (fun hc => ⟨hlt, ?_⟩) (fun hc => ⟨hlt, ?_⟩)
        · show _ = List.take _ _
          rw [take_more key, decide_eq_true hc, Bool.true_and]
        · show _ = List.take _ _
          rw [take_more key, decide_eq_false hc, Bool.false_and]
      rintro acc rfl
      refine ⟨_, bools_end (List.length_map ..), ?_⟩
      rw [List.any_map]
      show if (!coverB xs Bn i) = true then _ else _
      refine if_nb (fun hc => ?_) (fun hc => ⟨fun t ht => ?_, _, rfl⟩)
      · have e : ((List.range fin.toNat).all fun t => decide (comersOf lamps.length day landing ws t = []) || coverB xs Bn t) = false := by
          cases ha : (List.range fin.toNat).all fun t => decide (comersOf lamps.length day landing ws t = []) || coverB xs Bn t with
          | false => rfl
          | true =>
            rcases hall i (by omega) ha with z | z
            · exact absurd z hne
            · rw [hc] at z; cases z
        rw [e] at hp; exact hp
      · by_cases z : t = i
        · subst z; rw [hc, Bool.or_true]
        · exact hdone t (by omega)
    · by_cases z : t = i
      · subst z; rw [decide_eq_true he, Bool.true_or]
      · exact hdone t (by omega)
  · rintro S' ⟨hdone, x6, rfl⟩
    rw [List.length_map, List.length_range] at hdone
    have e : ((List.range fin.toNat).all fun t => decide (comersOf lamps.length day landing ws t = []) || coverB xs Bn t) = true := List.all_eq_true.mpr fun t ht => hdone t (List.mem_range.mp ht)
    rw [e] at hp
    exact hp
theorem cal_is_lot (d : Def K mg "is_lot" s_is_lot) (T : Bl mg) (c_need_asked : Cal P w K mg base "need_asked" ["stair", "walkers", "landing", "end"] 6 C_needasked) (c_are_ticks : Cal P w K mg base "are_ticks" ["thing"] 2 C_areticks) (o_who_come : CalO P w K mg base "who_come" ["stair", "walkers", "landing", "tick"] 2 C_whocome) : Cal P w K mg base "is_lot" ["stair", "walkers", "landing", "end", "thing"] 7 C_islot := by
  have c_who_come := Cal.ofO o_who_come
  refine calD d sc_is_lot (fun B ds post ⟨_, _, _, _, _, _, e, _⟩ => by subst e; exact ⟨rfl, fun d hd => by simp at hd; rcases hd with rfl | rfl | rfl | rfl | rfl <;> exact free_py⟩) (fun _ _ _ _ _ _ _ us hl => match us, hl with | [_, _, _, _, _], _ => rfl) (fun f cdv A outer s H E B ds post hr c => ⟨_, (psd_cons (psd_drop (pd_cal c_need_asked hr (pda_cons (pd_var 0) (pda_cons (pd_var 1) (pda_cons (pd_var 2) (pda_cons (pd_var 3) pda_nil))))))
        (psd_cons (psd_if (PDW.t (pdw_or (pdt_not (pdt_val (pd_cal c_are_ticks hr (pda_cons (pd_var 4) pda_nil)))) (pdw_or1 (pdt_not (pdt_val (pd_all T rfl (pd_lc (own := [("tick", 7)]) (g := (dgName 7)) (t := dYes) rfl sc_is_lot.nd (pdi_tup (pd_var 4)) (blkOk_by (N := ["stair", "walkers", "landing", "end", "thing", "one", "other", "tick"]) (sc := defScope s_is_lot) (by decide +kernel)) (fun _ _ _ _ _ => (pdg_name (i := 7) sc_is_lot.nd rfl (Or.inl rfl))) (fun _ _ _ _ _ => ptd_nil) (fun _ _ _ _ _ => (pd_cmp op_ltA od_ltA (pd_var 7) (pd_var 3) (nomark _)))))))))) (psd_one (psd_ret pd_bl)) psd_nil)
        (psd_cons (psd_if (pdt_not (pdt_val (pd_all T rfl (pd_lc (own := [("tick", 7)]) (g := (dgName 7)) (t := dYes) rfl sc_is_lot.nd (pdi_tup (pd_var 4)) (blkOk_by (N := ["stair", "walkers", "landing", "end", "thing", "one", "other", "tick"]) (sc := defScope s_is_lot) (by decide +kernel)) (fun _ _ _ _ _ => (pdg_name (i := 7) sc_is_lot.nd rfl (Or.inl rfl))) (fun _ _ _ _ _ => ptd_nil) (fun _ _ _ _ _ => (pd_cmp (op_neA hr.units) od_ne (pd_cal c_who_come hr (pda_cons (pd_var 0) (pda_cons (pd_var 1) (pda_cons (pd_var 2) (pda_cons (pd_var 7) pda_nil))))) (pd_lst pda_nil) (nomark _))))))) (psd_one (psd_ret pd_bl)) psd_nil)
        (psd_one (psd_ret (pd_all T rfl (pd_lc (own := [("one", 5), ("other", 6)]) (g := (dgTup (dgCons (dgName 5) (dgCons (dgName 6) dgNil)))) (t := dYes) rfl sc_is_lot.nd (pdi_zip (by rfl) T.zip (pd_var 4) (pd_slice (pd_var 4) (pdo_some pd_int) pdo_none)) (blkOk_by (N := ["stair", "walkers", "landing", "end", "thing", "one", "other", "tick"]) (sc := defScope s_is_lot) (by decide +kernel)) (fun _ _ _ _ _ => (pdg_tup rfl (pdgs_cons (pdg_name (i := 5) sc_is_lot.nd rfl (Or.inl rfl)) (pdgs_cons (pdg_name (i := 6) sc_is_lot.nd rfl (Or.inl rfl)) pdgs_nil)) (lg_cons rch_name (lg_cons rch_name lg_nil)))) (fun _ _ _ _ _ => ptd_nil) (fun _ _ _ _ _ => (pd_cmp op_ge od_ge (pd_sub (pd_var 6) (pd_var 5)) (pd_ix (pd_ix (pd_var 0) pd_int) (pd_var 2)) (nomark _)))))))))), ?_⟩)
  obtain ⟨day, lamps, ws, landing, fin, q, rfl, ok, f0, f1, hq, hp⟩ := c
  refine at_st (S' := [some (.py (stairPy day lamps)), some (.py (walkersPy ws)), some (.py (.int landing)), some (.py (.int fin)), some (.py q), none, none, none]) rfl ?_
  obtain ⟨ela, _⟩ := lamp_at ok.l0 ok.l1
  walk_at "dl"
  refine ⟨day, lamps, ws, landing, fin, rfl, ok, f0, f1, q, rfl, hq, ?_⟩
  walk_at "dl"
  unfold lotB at hp
  refine if_nb (fun h => ?_) (fun h => ?_)
  · simp only [h, Bool.false_and] at hp; exact hp
  simp only [h, Bool.true_and] at hp
  obtain ⟨eq_, hx1, hx2⟩ := ticksB_shape h
  generalize intsOf q = xs at *
  subst eq_
  have hxl : xs.length ≤ 1000000 := by have := hq _ rfl; rw [List.length_map] at this; exact this
  walk_at "dl"
  refine ⟨fun j acc => acc = (((xs.map fun x => decide (x < fin))).map PyData.bool).take j, rfl, ?_, ?_⟩
  · rintro j d acc hj rfl
    obtain ⟨x, hx, rfl⟩ := map_get hj
    have key : (((xs.map fun x => decide (x < fin))).map PyData.bool)[j]? = some (.bool (decide (x < fin))) := map_get2 (f := PyData.bool) (map_get2 (f := fun x => decide (x < fin)) hx)
    have hj2 := (List.getElem?_eq_some_iff.mp hx).1
    walk_at "dl"
    exact ⟨by rw [List.length_take]; omega, (take_more key).symm⟩
  rintro acc rfl
  refine ⟨_, bools_end (List.length_map ..), ?_⟩
  rw [List.all_map]
  refine if_nb (fun h2 => ?_) (fun h2 => ?_)
  · rw [show (xs.all fun x => decide (x < fin)) = false from h2] at hp
    simp only [Bool.false_and] at hp; exact hp
  rw [show (xs.all fun x => decide (x < fin)) = true from h2] at hp
  simp only [Bool.true_and] at hp
  refine ⟨fun j acc => acc = (((xs.map fun x => !decide (comersOf lamps.length day landing ws x = []))).map PyData.bool).take j, rfl, ?_, ?_⟩
  · rintro j d acc hj rfl
    obtain ⟨x, hx, rfl⟩ := map_get hj
    have key : (((xs.map fun x => !decide (comersOf lamps.length day landing ws x = []))).map PyData.bool)[j]? = some (.bool (!decide (comersOf lamps.length day landing ws x = []))) := map_get2 (f := PyData.bool) (map_get2 (f := fun x => !decide (comersOf lamps.length day landing ws x = [])) hx)
    have hj2 := (List.getElem?_eq_some_iff.mp hx).1
    refine ⟨day, lamps, ws, landing, x, rfl, ok.s.d1, by have := ok.w.n2; omega, fun u hu => ⟨(ok.w.wk u hu).2.2.2.1, by have := (ok.w.wk u hu).2.2.2.2; omega⟩, ?_⟩
    unfold froz
    walk_at "dl"
    rw [eqv_nil]
    exact ⟨(Shp.strs (k := 0) (comers_ok ok.w)).ok, nil_shp, by rw [List.length_take]; omega, (take_more key).symm⟩
  rintro acc rfl
  refine ⟨_, bools_end (List.length_map ..), ?_⟩
  rw [List.all_map]
  refine if_nb (fun h3 => ?_) (fun h3 => ?_)
  · rw [show (xs.all fun x => !decide (comersOf lamps.length day landing ws x = [])) = false from h3] at hp
    simp only [Bool.false_and] at hp; exact hp
  rw [show (xs.all fun x => !decide (comersOf lamps.length day landing ws x = [])) = true from h3] at hp
  simp only [Bool.true_and] at hp
  rw [show (some (1 : Int)) = some ((1 : Nat) : Int) from rfl, cut_from]
  have hz : (zipP (pInts xs) ((pInts xs).drop 1)).length ≤ xs.length := by unfold zipP; rw [List.length_zipWith, List.length_map]; exact Nat.min_le_left _ _
  refine ⟨fun j acc => acc = (((zipP (pInts xs) ((pInts xs).drop 1)).map (apartB (lampAt lamps landing))).map PyData.bool).take j, rfl, ?_, ?_⟩
  · rintro j d acc hj rfl
    have key := map_get2 (f := PyData.bool) (map_get2 (f := apartB (lampAt lamps landing)) hj)
    obtain ⟨x, y, hx, hy, rfl⟩ := zip_get hj
    obtain ⟨x, _, rfl⟩ := map_get hx
    have hy := List.mem_of_mem_drop (List.mem_of_getElem? hy)
    obtain ⟨y, _, rfl⟩ := List.mem_map.mp hy
    have hj2 := (List.getElem?_eq_some_iff.mp hj).1
    walk_at "dl"
    rw [ela]
    walk_at "dl"
    exact ⟨by rw [List.length_take]; omega, (take_more key).symm⟩
  rintro acc rfl
  refine ⟨_, bools_end rfl, ?_⟩
  rw [List.all_map]
  exact hp
end
local macro_rules | `(tactic| walk_at "dl") => `(tactic| simp only [atI_0, atI_1, atI_2, atI_3, stairPy, walkersPy, Walker.py, firstPy, if_true, if_false, List.length_cons, List.length_nil, Nat.reduceAdd, Nat.reduceLeDiff, Nat.zero_add, true_and, and_true, dSeq, dNext, dBrk, dCont, dIfS, dRet, dRetV, dRetVO, dRetO, dSetO, List.map_cons, List.map_nil, dSet, dSetL, dSetD, dApp, dDrop, dPar, dPar3, dParL, dPut, dWhile, dFor, dAsg, dVar, dC, dOp, dUn, dB, dAnd, dOr, dNot, dAndV, dOrV, dNotV, dIf, dNil, dCons, dChain, dTup, dLst, dCB, dCall, dSl, dNo, dPart, dLc, dYes, dDix, dDget_eq, dDin, diL, diT, diR1, diR2, diS, diZ, dgName, dgNil, dgCons, dgTup, fI, fIc, fAdd, fMul, fEq, fNe, fLt, fLe, fGt, fGe, fLtA, fSub, fFdiv, fMod, fIsN, fNotN, fIsB, fNotB, fIx, fSl, fIn, fInS, fDix, cLen, cInt, cMax2, cMin2, cSum, cMaxL, cMinL, cAll, cAny, cTuple, cList, cSorted, cSortD, dRg, dZero, cIsi, dCntS, dIdxS, dRev, dPar3D, dPar3L, fMulT, dRetLcO, dLcO, dLstEn, dSortSet, dTupRg3, dSetAddO, dFrz, dParG, dSortSetT, dSetLiO, dSti, dIsi2, cRepr, cMinP, dTryFn, dSortSetS, slotEnd, fIsE, dLam, dFld, dMet, dMake, D.py?, D.items, D.lsti, D.ty, D.kvs, keyD, pys, fre, isNonD, wipeS, Option.map, List.set, List.getElem?_cons_succ, List.getElem?_cons_zero])
/-! ### what is none is refused -/
def C_needstairX (CN : Addr) : CtX := fun _ ds post px => ∃ q : PyData, ds = [.py q] ∧ (stairB q = true → post (.py .none)) ∧ (stairB q = false → px (.ref CN) [])
section
variable {P : Program} {w : World} {K : Kf} {mg : Str → Option Value} {base : Heap} {CN : Addr}
theorem cal_need_stairX (d : Def K mg "need_stair" s_need_stair) (T : Bl mg) (X_NoStair : ExcK K mg "NoStair" CN) (c_is_stair : Cal P w K mg base "is_stair" ["thing"] 2 C_isstair) : CalX P w K mg base "need_stair" ["stair"] 3 (C_needstairX CN) := by
  refine calDX d sc_need_stair (fun B ds post px ⟨_, e, _⟩ => by subst e; exact ⟨rfl, fun d hd => by simp at hd; rcases hd with rfl; exact free_py⟩) (fun _ _ _ _ _ _ _ us hl => match us, hl with | [_], _ => rfl) (fun f cdv A outer s H E B G ds post px hr tk c => ⟨_, (pdx_one (pdx_if (pdt_not (pdt_val (pd_cal c_is_stair hr (pda_cons (pd_var 0) pda_nil)))) (pdx_one (pdx_raise rfl tk X_NoStair)) pdx_nil)), ?_⟩)
  obtain ⟨q, rfl, h1, h2⟩ := c
  refine at_st (S' := [some (.py q)]) rfl ?_
  walk_at "dl"
  exact ⟨_, rfl, if_nb (fun h => h2 h) (fun h => h1 h)⟩
end
/-! ### what is none is refused, by each door -/
def gateX (K : Kf) (q1 q2 : PyData) (px : XP) (ok : Int → List Int → List Walker → Prop) : Prop :=
  (stairB q1 = false ∧ px (.ref (He.ga K "NoStair")) []) ∨ ∃ (day : Int) (lamps : List Int), q1 = stairPy day lamps ∧ OkStair day lamps ∧ wsOk q2 ∧
    ((walkersB day q2 = false ∧ px (.ref (He.ga K "NoWalkers")) []) ∨ ∃ ws : List Walker, q2 = walkersPy ws ∧ OkWs day ws ∧ ok day lamps ws)
theorem gateX.imp {K : Kf} {q1 q2 : PyData} {px : XP} {ok ok' : Int → List Int → List Walker → Prop} (g : gateX K q1 q2 px ok) (h : ∀ day lamps ws, q1 = stairPy day lamps → q2 = walkersPy ws → OkStair day lamps → OkWs day ws → ok day lamps ws → ok' day lamps ws) : gateX K q1 q2 px ok' := by
  rcases g with g | ⟨day, lamps, e, os, w, g | ⟨ws, e2, ow, g⟩⟩
  · exact .inl g
  · exact .inr ⟨day, lamps, e, os, w, .inl g⟩
  · exact .inr ⟨day, lamps, e, os, w, .inr ⟨ws, e2, ow, h day lamps ws e e2 os ow g⟩⟩
def gateL (K : Kf) (q1 q2 q3 : PyData) (px : XP) (ok : Prop) : Prop :=
  gateX K q1 q2 px fun _ lamps _ => (withinB q3 0 (lamps.length - 1) = false ∧ px (.ref (He.ga K "NoLanding")) []) ∨ (withinB q3 0 (lamps.length - 1) = true ∧ ok)
theorem gateL.imp {K : Kf} {q1 q2 q3 : PyData} {px : XP} {ok ok' : Prop} (g : gateL K q1 q2 q3 px ok) (h : ok → ok') : gateL K q1 q2 q3 px ok' := gateX.imp g fun _ _ _ _ _ _ _ z => z.elim .inl fun z => .inr ⟨z.1, h z.2⟩
def C_needhouseX (K : Kf) : CtX := fun _ ds post px => ∃ q1 q2 : PyData, ds = [.py q1, .py q2] ∧ gateX K q1 q2 px fun _ _ _ => post (.py .none)
def C_needlandingX (K : Kf) : CtX := fun _ ds post px => ∃ q1 q2 q3 : PyData, ds = [.py q1, .py q2, .py q3] ∧ gateL K q1 q2 q3 px (post (.py .none))
def tickX (K : Kf) (q : PyData) (last : Int) (px : XP) (ok : Prop) : Prop := (withinB q 0 last = false ∧ px (.ref (He.ga K "NoTick")) []) ∨ (withinB q 0 last = true ∧ ok)
theorem tickX.imp {K : Kf} {q : PyData} {last : Int} {px : XP} {ok ok' : Prop} (g : tickX K q last px ok) (h : ok → ok') : tickX K q last px ok' := g.elim .inl fun z => .inr ⟨z.1, h z.2⟩
def C_needtickX (K : Kf) : CtX := fun _ ds post px => ∃ (q : PyData) (last : Int), ds = [.py q, .py (.int last)] ∧ tickX K q last px (post (.py .none))
def numX (K : Kf) (q : PyData) (px : XP) (ok : Prop) : Prop := (withinB q 1 1000000000000000000 = false ∧ px (.ref (He.ga K "NoNumber")) []) ∨ (withinB q 1 1000000000000000000 = true ∧ ok)
def C_neednumberX (K : Kf) : CtX := fun _ ds post px => ∃ q : PyData, ds = [.py q] ∧ numX K q px (post (.py .none))
def fracB (q : PyData) : Bool := match q with
  | .tuple [a, b] => withinB a 1 1000 && withinB b 1 1000
  | _ => false
def badF (q : PyData) : Prop := fracB q = false ∨ ∃ t b : Nat, q = .tuple [.int t, .int b] ∧ 1 ≤ t ∧ t ≤ 1000 ∧ 1 ≤ b ∧ b ≤ 1000 ∧ Nat.gcd t b ≠ 1
def C_needfractionX (K : Kf) : CtX := fun _ ds _ px => ∃ q : PyData, ds = [.py q] ∧ badF q ∧ px (.ref (He.ga K "NoFraction")) []
def C_askedX (K : Kf) : CtX := fun _ ds post px => ∃ q1 q2 q3 q4 : PyData, ds = [.py q1, .py q2, .py q3, .py q4] ∧ gateL K q1 q2 q3 px (tickX K q4 2000 px (post (.py .none)))
/-! the doors where they refuse -/
def D_tick (K : Kf) (last : Int) : CtX := fun _ ds _ px => ∃ q1 q2 q3 q4 : PyData, ds = [.py q1, .py q2, .py q3, .py q4] ∧ gateL K q1 q2 q3 px (tickX K q4 last px False)
def D_tick5 (K : Kf) (last : Int) : CtX := fun _ ds _ px => ∃ q1 q2 q3 q4 q5 : PyData, ds = [.py q1, .py q2, .py q3, .py q4, .py q5] ∧ gateL K q1 q2 q3 px (tickX K q4 last px False)
def D_num (K : Kf) : CtX := fun _ ds _ px => ∃ q1 q2 q3 q4 : PyData, ds = [.py q1, .py q2, .py q3, .py q4] ∧ gateL K q1 q2 q3 px (numX K q4 px False)
def D_land (K : Kf) : CtX := fun _ ds _ px => ∃ q1 q2 q3 : PyData, ds = [.py q1, .py q2, .py q3] ∧ gateL K q1 q2 q3 px False
def D_frac (K : Kf) : CtX := fun _ ds _ px => ∃ q1 q2 q3 q4 : PyData, ds = [.py q1, .py q2, .py q3, .py q4] ∧ gateL K q1 q2 q3 px (badF q4 ∧ px (.ref (He.ga K "NoFraction")) [])
theorem pdx_none {X : Cx} {B : List Addr} {H0 G0 : Hp} {b : List Stmt} : PDXs X B H0 G0 b (fun _ _ => False) := PSsmono pss_none fun _ _ _ ⟨_, ⟨_, _, _, _, z⟩, _⟩ => z.elim
theorem if_nb2 {c : Bool} {A B : Prop} (h : (c = false ∧ A) ∨ (c = true ∧ B)) : if (!c) = true then A else B := by
  rcases h with ⟨h, z⟩ | ⟨h, z⟩ <;> subst h <;> exact z
section
variable {P : Program} {w : World} {K : Kf} {mg : Str → Option Value} {base : Heap}
theorem cal_need_houseX (d : Def K mg "need_house" s_need_house) (T : Bl mg) (X_NoWalkers : ExcK K mg "NoWalkers" (He.ga K "NoWalkers")) (x_need_stair : CalX P w K mg base "need_stair" ["stair"] 3 (C_needstairX (He.ga K "NoStair"))) (c_are_all_walkers : Cal P w K mg base "are_all_walkers" ["stair", "thing"] 3 C_areall) : CalX P w K mg base "need_house" ["stair", "walkers"] 4 (C_needhouseX K) := by
  refine calDX d sc_need_house (fun B ds post px ⟨_, _, e, _⟩ => by subst e; exact ⟨rfl, fun d hd => by simp at hd; rcases hd with rfl | rfl <;> exact free_py⟩) (fun _ _ _ _ _ _ _ us hl => match us, hl with | [_, _], _ => rfl) (fun f cdv A outer s H E B G ds post px hr tk c => ⟨_, (pdx_cons (pdx_drop (pdx_cal x_need_stair tk hr (pda_cons (pd_var 0) pda_nil)))
        (pdx_one (pdx_if (pdt_not (pdt_val (pd_cal c_are_all_walkers hr (pda_cons (pd_var 0) (pda_cons (pd_var 1) pda_nil))))) (pdx_one (pdx_raise rfl tk X_NoWalkers)) pdx_nil))), ?_⟩)
  obtain ⟨q1, q2, rfl, g⟩ := c
  refine at_st (S' := [some (.py q1), some (.py q2)]) rfl ?_
  walk_at "dl"
  rcases g with ⟨h, z⟩ | ⟨day, lamps, rfl, os, w, g⟩
  · exact ⟨q1, rfl, (fun h' => by rw [h] at h'; cases h'), fun _ => z⟩
  · refine ⟨_, rfl, fun _ => ?_, fun h' => by rw [os.b] at h'; cases h'⟩
    walk_at "dl"
    refine ⟨q2, day, lamps, rfl, w, if_nb2 ?_⟩
    rcases g with ⟨h, z⟩ | ⟨ws, rfl, ow, z⟩
    · exact .inl ⟨h, z⟩
    · exact .inr ⟨ow.b, z⟩
theorem cal_need_landingX (d : Def K mg "need_landing" s_need_landing) (T : Bl mg) (X_NoLanding : ExcK K mg "NoLanding" (He.ga K "NoLanding")) (x_need_house : CalX P w K mg base "need_house" ["stair", "walkers"] 4 (C_needhouseX K)) (c_is_within : Cal P w K mg base "is_within" ["thing", "low", "high"] 1 C_within) : CalX P w K mg base "need_landing" ["stair", "walkers", "landing"] 5 (C_needlandingX K) := by
  refine calDX d sc_need_landing (fun B ds post px ⟨_, _, _, e, _⟩ => by subst e; exact ⟨rfl, fun d hd => by simp at hd; rcases hd with rfl | rfl | rfl <;> exact free_py⟩) (fun _ _ _ _ _ _ _ us hl => match us, hl with | [_, _, _], _ => rfl) (fun f cdv A outer s H E B G ds post px hr tk c => ⟨_, (pdx_cons (pdx_drop (pdx_cal x_need_house tk hr (pda_cons (pd_var 0) (pda_cons (pd_var 1) pda_nil))))
        (pdx_one (pdx_if (pdt_not (pdt_val (pd_cal c_is_within hr (pda_cons (pd_var 2) (pda_cons pd_int (pda_cons (pd_sub (pd_len T (pd_ix (pd_var 0) pd_int)) pd_int) pda_nil)))))) (pdx_one (pdx_raise rfl tk X_NoLanding)) pdx_nil))), ?_⟩)
  obtain ⟨q1, q2, q3, rfl, g⟩ := c
  refine at_st (S' := [some (.py q1), some (.py q2), some (.py q3)]) rfl ?_
  walk_at "dl"
  refine ⟨_, _, rfl, gateX.imp g fun day lamps ws e1 e2 os ow z => ?_⟩
  subst e1 e2
  walk_at "dl"
  refine ⟨_, _, _, rfl, ?_⟩
  rw [show (pInts lamps).length = lamps.length from List.length_map ..]
  exact if_nb2 z
theorem cal_need_tickX (d : Def K mg "need_tick" s_need_tick) (T : Bl mg) (X_NoTick : ExcK K mg "NoTick" (He.ga K "NoTick")) (c_is_within : Cal P w K mg base "is_within" ["thing", "low", "high"] 1 C_within) : CalX P w K mg base "need_tick" ["tick", "last"] 2 (C_needtickX K) := by
  refine calDX d sc_need_tick (fun B ds post px ⟨_, _, e, _⟩ => by subst e; exact ⟨rfl, fun d hd => by simp at hd; rcases hd with rfl | rfl <;> exact free_py⟩) (fun _ _ _ _ _ _ _ us hl => match us, hl with | [_, _], _ => rfl) (fun f cdv A outer s H E B G ds post px hr tk c => ⟨_, (pdx_one (pdx_if (pdt_not (pdt_val (pd_cal c_is_within hr (pda_cons (pd_var 0) (pda_cons pd_int (pda_cons (pd_var 1) pda_nil)))))) (pdx_one (pdx_raise rfl tk X_NoTick)) pdx_nil)), ?_⟩)
  obtain ⟨q, last, rfl, g⟩ := c
  refine at_st (S' := [some (.py q), some (.py (.int last))]) rfl ?_
  walk_at "dl"
  exact ⟨_, _, _, rfl, if_nb2 g⟩
theorem cal_need_numberX (d : Def K mg "need_number" s_need_number) (T : Bl mg) (TFAR : ∃ t, mg "FAR" = some (.int 1000000000000000000 t)) (X_NoNumber : ExcK K mg "NoNumber" (He.ga K "NoNumber")) (c_is_within : Cal P w K mg base "is_within" ["thing", "low", "high"] 1 C_within) : CalX P w K mg base "need_number" ["number"] 2 (C_neednumberX K) := by
  refine calDX d sc_need_number (fun B ds post px ⟨_, e, _⟩ => by subst e; exact ⟨rfl, fun d hd => by simp at hd; rcases hd with rfl; exact free_py⟩) (fun _ _ _ _ _ _ _ us hl => match us, hl with | [_], _ => rfl) (fun f cdv A outer s H E B G ds post px hr tk c => ⟨_, (pdx_one (pdx_if (pdt_not (pdt_val (pd_cal c_is_within hr (pda_cons (pd_var 0) (pda_cons pd_int (pda_cons (pd_globI (by rfl) TFAR) pda_nil)))))) (pdx_one (pdx_raise rfl tk X_NoNumber)) pdx_nil)), ?_⟩)
  obtain ⟨q, rfl, g⟩ := c
  refine at_st (S' := [some (.py q)]) rfl ?_
  walk_at "dl"
  exact ⟨_, _, _, rfl, if_nb2 g⟩
theorem cal_need_askedX (d : Def K mg "need_asked" s_need_asked) (T : Bl mg) (TLAST : ∃ t, mg "LAST" = some (.int 2000 t)) (x_need_landing : CalX P w K mg base "need_landing" ["stair", "walkers", "landing"] 5 (C_needlandingX K)) (x_need_tick : CalX P w K mg base "need_tick" ["tick", "last"] 2 (C_needtickX K)) : CalX P w K mg base "need_asked" ["stair", "walkers", "landing", "end"] 6 (C_askedX K) := by
  refine calDX d sc_need_asked (fun B ds post px ⟨_, _, _, _, e, _⟩ => by subst e; exact ⟨rfl, fun d hd => by simp at hd; rcases hd with rfl | rfl | rfl | rfl <;> exact free_py⟩) (fun _ _ _ _ _ _ _ us hl => match us, hl with | [_, _, _, _], _ => rfl) (fun f cdv A outer s H E B G ds post px hr tk c => ⟨_, (pdx_cons (pdx_drop (pdx_cal x_need_landing tk hr (pda_cons (pd_var 0) (pda_cons (pd_var 1) (pda_cons (pd_var 2) pda_nil)))))
        (pdx_one (pdx_drop (pdx_cal x_need_tick tk hr (pda_cons (pd_var 3) (pda_cons (pd_globI (by rfl) TLAST) pda_nil)))))), ?_⟩)
  obtain ⟨q1, q2, q3, q4, rfl, g⟩ := c
  refine at_st (S' := [some (.py q1), some (.py q2), some (.py q3), some (.py q4)]) rfl ?_
  walk_at "dl"
  refine ⟨_, _, _, rfl, gateL.imp g fun z => ?_⟩
  walk_at "dl"
  exact ⟨_, _, rfl, z⟩
end
section
variable {P : Program} {w : World} {K : Kf} {mg : Str → Option Value} {base : Heap}
theorem cal_comeX (d : Def K mg "come" s_come) (T : Bl mg) (TFAR : ∃ t, mg "FAR" = some (.int 1000000000000000000 t)) (x_need_landing : CalX P w K mg base "need_landing" ["stair", "walkers", "landing"] 5 (C_needlandingX K)) (x_need_tick : CalX P w K mg base "need_tick" ["tick", "last"] 2 (C_needtickX K)) : CalX P w K mg base "come" ["stair", "walkers", "landing", "tick"] 6 (D_tick K 1000000000000000000) := by
  refine calDX d sc_come (fun B ds post px ⟨_, _, _, _, e, _⟩ => by subst e; exact ⟨rfl, fun d hd => by simp at hd; rcases hd with rfl | rfl | rfl | rfl <;> exact free_py⟩) (fun _ _ _ _ _ _ _ us hl => match us, hl with | [_, _, _, _], _ => rfl) (fun f cdv A outer s H E B G ds post px hr tk c => ⟨_, (pdx_cons (pdx_drop (pdx_cal x_need_landing tk hr (pda_cons (pd_var 0) (pda_cons (pd_var 1) (pda_cons (pd_var 2) pda_nil)))))
        (pdx_cons (pdx_drop (pdx_cal x_need_tick tk hr (pda_cons (pd_var 3) (pda_cons (pd_globI (by rfl) TFAR) pda_nil))))
        pdx_none)), ?_⟩)
  obtain ⟨q1, q2, q3, q4, rfl, g⟩ := c
  refine at_st (S' := [some (.py q1), some (.py q2), some (.py q3), some (.py q4)]) rfl ?_
  walk_at "dl"
  exact ⟨_, _, _, rfl, gateL.imp g fun z => by
    walk_at "dl"
    exact ⟨_, _, rfl, z⟩⟩
theorem cal_pressX (d : Def K mg "press" s_press) (T : Bl mg) (x_need_landing : CalX P w K mg base "need_landing" ["stair", "walkers", "landing"] 5 (C_needlandingX K)) (x_need_number : CalX P w K mg base "need_number" ["number"] 2 (C_neednumberX K)) : CalX P w K mg base "press" ["stair", "walkers", "landing", "number"] 6 (D_num K) := by
  refine calDX d sc_press (fun B ds post px ⟨_, _, _, _, e, _⟩ => by subst e; exact ⟨rfl, fun d hd => by simp at hd; rcases hd with rfl | rfl | rfl | rfl <;> exact free_py⟩) (fun _ _ _ _ _ _ _ us hl => match us, hl with | [_, _, _, _], _ => rfl) (fun f cdv A outer s H E B G ds post px hr tk c => ⟨_, (pdx_cons (pdx_drop (pdx_cal x_need_landing tk hr (pda_cons (pd_var 0) (pda_cons (pd_var 1) (pda_cons (pd_var 2) pda_nil)))))
        (pdx_cons (pdx_drop (pdx_cal x_need_number tk hr (pda_cons (pd_var 3) pda_nil)))
        pdx_none)), ?_⟩)
  obtain ⟨q1, q2, q3, q4, rfl, g⟩ := c
  refine at_st (S' := [some (.py q1), some (.py q2), some (.py q3), some (.py q4)]) rfl ?_
  walk_at "dl"
  exact ⟨_, _, _, rfl, gateL.imp g fun z => by
    walk_at "dl"
    exact ⟨_, rfl, z⟩⟩
theorem cal_how_manyX (d : Def K mg "how_many" s_how_many) (T : Bl mg) (TFAR : ∃ t, mg "FAR" = some (.int 1000000000000000000 t)) (x_need_landing : CalX P w K mg base "need_landing" ["stair", "walkers", "landing"] 5 (C_needlandingX K)) (x_need_tick : CalX P w K mg base "need_tick" ["tick", "last"] 2 (C_needtickX K)) : CalX P w K mg base "how_many" ["stair", "walkers", "landing", "tick"] 6 (D_tick K 1000000000000000000) := by
  refine calDX d sc_how_many (fun B ds post px ⟨_, _, _, _, e, _⟩ => by subst e; exact ⟨rfl, fun d hd => by simp at hd; rcases hd with rfl | rfl | rfl | rfl <;> exact free_py⟩) (fun _ _ _ _ _ _ _ us hl => match us, hl with | [_, _, _, _], _ => rfl) (fun f cdv A outer s H E B G ds post px hr tk c => ⟨_, (pdx_cons (pdx_drop (pdx_cal x_need_landing tk hr (pda_cons (pd_var 0) (pda_cons (pd_var 1) (pda_cons (pd_var 2) pda_nil)))))
        (pdx_cons (pdx_drop (pdx_cal x_need_tick tk hr (pda_cons (pd_var 3) (pda_cons (pd_globI (by rfl) TFAR) pda_nil))))
        pdx_none)), ?_⟩)
  obtain ⟨q1, q2, q3, q4, rfl, g⟩ := c
  refine at_st (S' := [some (.py q1), some (.py q2), some (.py q3), some (.py q4)]) rfl ?_
  walk_at "dl"
  exact ⟨_, _, _, rfl, gateL.imp g fun z => by
    walk_at "dl"
    exact ⟨_, _, rfl, z⟩⟩
theorem cal_comes_roundX (d : Def K mg "comes_round" s_comes_round) (T : Bl mg) (x_need_landing : CalX P w K mg base "need_landing" ["stair", "walkers", "landing"] 5 (C_needlandingX K)) : CalX P w K mg base "comes_round" ["stair", "walkers", "landing"] 6 (D_land K) := by
  refine calDX d sc_comes_round (fun B ds post px ⟨_, _, _, e, _⟩ => by subst e; exact ⟨rfl, fun d hd => by simp at hd; rcases hd with rfl | rfl | rfl <;> exact free_py⟩) (fun _ _ _ _ _ _ _ us hl => match us, hl with | [_, _, _], _ => rfl) (fun f cdv A outer s H E B G ds post px hr tk c => ⟨_, (pdx_cons (pdx_drop (pdx_cal x_need_landing tk hr (pda_cons (pd_var 0) (pda_cons (pd_var 1) (pda_cons (pd_var 2) pda_nil)))))
        pdx_none), ?_⟩)
  obtain ⟨q1, q2, q3, rfl, g⟩ := c
  refine at_st (S' := [some (.py q1), some (.py q2), some (.py q3), none]) rfl ?_
  walk_at "dl"
  exact ⟨_, _, _, rfl, g⟩
theorem cal_sharesX (d : Def K mg "shares" s_shares) (T : Bl mg) (x_need_landing : CalX P w K mg base "need_landing" ["stair", "walkers", "landing"] 5 (C_needlandingX K)) : CalX P w K mg base "shares" ["stair", "walkers", "landing"] 6 (D_land K) := by
  refine calDX d sc_shares (fun B ds post px ⟨_, _, _, e, _⟩ => by subst e; exact ⟨rfl, fun d hd => by simp at hd; rcases hd with rfl | rfl | rfl <;> exact free_py⟩) (fun _ _ _ _ _ _ _ us hl => match us, hl with | [_, _, _], _ => rfl) (fun f cdv A outer s H E B G ds post px hr tk c => ⟨_, (pdx_cons (pdx_drop (pdx_cal x_need_landing tk hr (pda_cons (pd_var 0) (pda_cons (pd_var 1) (pda_cons (pd_var 2) pda_nil)))))
        pdx_none), ?_⟩)
  obtain ⟨q1, q2, q3, rfl, g⟩ := c
  refine at_st (S' := [some (.py q1), some (.py q2), some (.py q3), none, none, none, none]) rfl ?_
  walk_at "dl"
  exact ⟨_, _, _, rfl, g⟩
theorem cal_lotX (d : Def K mg "lot" s_lot) (T : Bl mg) (x_need_asked : CalX P w K mg base "need_asked" ["stair", "walkers", "landing", "end"] 6 (C_askedX K)) : CalX P w K mg base "lot" ["stair", "walkers", "landing", "end"] 7 (D_tick K 2000) := by
  refine calDX d sc_lot (fun B ds post px ⟨_, _, _, _, e, _⟩ => by subst e; exact ⟨rfl, fun d hd => by simp at hd; rcases hd with rfl | rfl | rfl | rfl <;> exact free_py⟩) (fun _ _ _ _ _ _ _ us hl => match us, hl with | [_, _, _, _], _ => rfl) (fun f cdv A outer s H E B G ds post px hr tk c => ⟨_, (pdx_cons (pdx_drop (pdx_cal x_need_asked tk hr (pda_cons (pd_var 0) (pda_cons (pd_var 1) (pda_cons (pd_var 2) (pda_cons (pd_var 3) pda_nil))))))
        pdx_none), ?_⟩)
  obtain ⟨q1, q2, q3, q4, rfl, g⟩ := c
  refine at_st (S' := [some (.py q1), some (.py q2), some (.py q3), some (.py q4), none, none]) rfl ?_
  walk_at "dl"
  exact ⟨_, _, _, _, rfl, g⟩
theorem cal_are_keepingX (d : Def K mg "are_keeping" s_are_keeping) (T : Bl mg) (x_need_asked : CalX P w K mg base "need_asked" ["stair", "walkers", "landing", "end"] 6 (C_askedX K)) : CalX P w K mg base "are_keeping" ["stair", "walkers", "landing", "end", "thing"] 7 (D_tick5 K 2000) := by
  refine calDX d sc_are_keeping (fun B ds post px ⟨_, _, _, _, _, e, _⟩ => by subst e; exact ⟨rfl, fun d hd => by simp at hd; rcases hd with rfl | rfl | rfl | rfl | rfl <;> exact free_py⟩) (fun _ _ _ _ _ _ _ us hl => match us, hl with | [_, _, _, _, _], _ => rfl) (fun f cdv A outer s H E B G ds post px hr tk c => ⟨_, (pdx_cons (pdx_drop (pdx_cal x_need_asked tk hr (pda_cons (pd_var 0) (pda_cons (pd_var 1) (pda_cons (pd_var 2) (pda_cons (pd_var 3) pda_nil))))))
        pdx_none), ?_⟩)
  obtain ⟨q1, q2, q3, q4, q5, rfl, g⟩ := c
  refine at_st (S' := [some (.py q1), some (.py q2), some (.py q3), some (.py q4), some (.py q5), none, none, none]) rfl ?_
  walk_at "dl"
  exact ⟨_, _, _, _, rfl, g⟩
theorem cal_is_lotX (d : Def K mg "is_lot" s_is_lot) (T : Bl mg) (x_need_asked : CalX P w K mg base "need_asked" ["stair", "walkers", "landing", "end"] 6 (C_askedX K)) : CalX P w K mg base "is_lot" ["stair", "walkers", "landing", "end", "thing"] 7 (D_tick5 K 2000) := by
  refine calDX d sc_is_lot (fun B ds post px ⟨_, _, _, _, _, e, _⟩ => by subst e; exact ⟨rfl, fun d hd => by simp at hd; rcases hd with rfl | rfl | rfl | rfl | rfl <;> exact free_py⟩) (fun _ _ _ _ _ _ _ us hl => match us, hl with | [_, _, _, _, _], _ => rfl) (fun f cdv A outer s H E B G ds post px hr tk c => ⟨_, (pdx_cons (pdx_drop (pdx_cal x_need_asked tk hr (pda_cons (pd_var 0) (pda_cons (pd_var 1) (pda_cons (pd_var 2) (pda_cons (pd_var 3) pda_nil))))))
        pdx_none), ?_⟩)
  obtain ⟨q1, q2, q3, q4, q5, rfl, g⟩ := c
  refine at_st (S' := [some (.py q1), some (.py q2), some (.py q3), some (.py q4), some (.py q5), none, none, none]) rfl ?_
  walk_at "dl"
  exact ⟨_, _, _, _, rfl, g⟩
theorem cal_least_burningX (d : Def K mg "least_burning" s_least_burning) (T : Bl mg) (x_need_landing : CalX P w K mg base "need_landing" ["stair", "walkers", "landing"] 5 (C_needlandingX K)) (x_need_fraction : CalX P w K mg base "need_fraction" ["thing"] 2 (C_needfractionX K)) : CalX P w K mg base "least_burning" ["stair", "walkers", "landing", "fraction"] 6 (D_frac K) := by
  refine calDX d sc_least_burning (fun B ds post px ⟨_, _, _, _, e, _⟩ => by subst e; exact ⟨rfl, fun d hd => by simp at hd; rcases hd with rfl | rfl | rfl | rfl <;> exact free_py⟩) (fun _ _ _ _ _ _ _ us hl => match us, hl with | [_, _, _, _], _ => rfl) (fun f cdv A outer s H E B G ds post px hr tk c => ⟨_, (pdx_cons (pdx_drop (pdx_cal x_need_landing tk hr (pda_cons (pd_var 0) (pda_cons (pd_var 1) (pda_cons (pd_var 2) pda_nil)))))
        (pdx_cons (pdx_drop (pdx_cal x_need_fraction tk hr (pda_cons (pd_var 3) pda_nil)))
        pdx_none)), ?_⟩)
  obtain ⟨q1, q2, q3, q4, rfl, g⟩ := c
  refine at_st (S' := [some (.py q1), some (.py q2), some (.py q3), some (.py q4), none, none, none, none, none]) rfl ?_
  walk_at "dl"
  exact ⟨_, _, _, rfl, gateL.imp g fun z => by
    walk_at "dl"
    exact ⟨_, rfl, z⟩⟩
end
section
variable {P : Program} {w : World} {K : Kf} {mg : Str → Option Value} {base : Heap}
theorem cal_need_fractionX (d : Def K mg "need_fraction" s_need_fraction) (T : Bl mg) (X_NoFraction : ExcK K mg "NoFraction" (He.ga K "NoFraction")) (c_is_within : Cal P w K mg base "is_within" ["thing", "low", "high"] 1 C_within) (c_common : Cal P w K mg base "common" ["one", "other"] 1 C_common) : CalX P w K mg base "need_fraction" ["thing"] 2 (C_needfractionX K) := by
  refine calDX d sc_need_fraction (fun B ds post px ⟨_, e, _⟩ => by subst e; exact ⟨rfl, fun d hd => by simp at hd; rcases hd with rfl; exact free_py⟩) (fun _ _ _ _ _ _ _ us hl => match us, hl with | [_], _ => rfl) (fun f cdv A outer s H E B G ds post px hr tk c => ⟨_, (pdx_cons (pdx_if (PDW.t (pdw_or (pdt_not (pdt_val (pd_isi T (pd_var 0) (pd_ty (by rfl) T.tuple bo_tuple)))) (pdw_or (pdt_cmp (op_neA hr.units) od_ne (pd_len T (pd_var 0)) pd_int (nomark _)) (pdw_or1 (pdt_not (pdt_val (pd_all T rfl (pd_lc (own := [("part", 1)]) (g := (dgName 1)) (t := dYes) rfl sc_need_fraction.nd (pdi_tup (pd_var 0)) (blkOk_by (N := ["thing", "part"]) (sc := defScope s_need_fraction) (by decide +kernel)) (fun _ _ _ _ _ => (pdg_name (i := 1) sc_need_fraction.nd rfl (Or.inl rfl))) (fun _ _ _ _ _ => ptd_nil) (fun _ _ _ _ _ => (pd_cal c_is_within hr (pda_cons (pd_var 1) (pda_cons pd_int (pda_cons pd_int pda_nil))))))))))))) (pdx_one (pdx_raise rfl tk X_NoFraction)) pdx_nil)
        (pdx_one (pdx_if (pdt_cmp (op_neA hr.units) od_ne (pd_cal c_common hr (pda_cons (pd_ix (pd_var 0) pd_int) (pda_cons (pd_ix (pd_var 0) pd_int) pda_nil))) pd_int (nomark _)) (pdx_one (pdx_raise rfl tk X_NoFraction)) pdx_nil))), ?_⟩)
  obtain ⟨q, rfl, g, z⟩ := c
  refine at_st (S' := [some (.py q), none]) rfl ?_
  rcases g with g | ⟨t, b, rfl, t1, t2, b1, b2, hg⟩
  · cases q with
    | tuple l =>
      walk_at "dl"
      refine ⟨by decide, if_nb (fun y => absurd y (by decide)) fun _ => if_ndec (fun _ => z) fun h2 => ?_⟩
      obtain ⟨a, b, rfl⟩ : ∃ a b, l = [a, b] := by
        rcases l with _ | ⟨a, _ | ⟨b, _ | ⟨c, r⟩⟩⟩
        · cases h2
        · cases h2
        · exact ⟨a, b, rfl⟩
        · exfalso; simp only [List.length_cons] at h2; omega
      refine ⟨fun i acc => acc = ([a, b].map fun x => PyData.bool (withinB x 1 1000)).take i, rfl, ?_, ?_⟩
      · rintro i d acc hi rfl
        refine ⟨d, _, _, rfl, by rw [List.length_take]; simp; omega, ?_⟩
        match i, hi with
        | 0, hi => cases hi; rfl
        | 1, hi => cases hi; rfl
        | i + 2, hi => cases hi
      rintro acc rfl
      refine ⟨[withinB a 1 1000, withinB b 1 1000], rfl, if_nb (fun _ => z) fun y => ?_⟩
      have y : (withinB a 1 1000 && (withinB b 1 1000 && true)) = true := y
      have g : (withinB a 1 1000 && withinB b 1 1000) = false := g
      rw [Bool.and_true, g] at y; cases y
    | _ =>
      walk_at "dl"
      exact ⟨by decide, z⟩
  · walk_at "dl"
    refine ⟨.inr (.inr (.inr (.inr trivial))), if_nb (fun z => absurd z (by decide)) fun _ => if_ndec (fun z => absurd rfl z) fun _ => ?_⟩
    refine ⟨fun i acc => acc = ([PyData.int t, PyData.int b].map fun x => PyData.bool (withinB x 1 1000)).take i, rfl, ?_, ?_⟩
    · rintro i d acc hi rfl
      refine ⟨d, _, _, rfl, by rw [List.length_take]; simp; omega, ?_⟩
      match i, hi with
      | 0, hi => cases hi; rfl
      | 1, hi => cases hi; rfl
      | i + 2, hi => cases hi
    rintro acc rfl
    refine ⟨[withinB (.int t) 1 1000, withinB (.int b) 1 1000], rfl, if_nb (fun _ => z) fun _ => ?_⟩
    refine ⟨t, b, rfl, ?_⟩
    exact if_ndec (fun _ => z) fun y => absurd (Int.ofNat_inj.mp y) hg
end
local macro_rules | `(tactic| walk_at "dl") => `(tactic| simp only [atI_0, atI_1, atI_2, atI_3, stairPy, walkersPy, Walker.py, firstPy, if_true, if_false, List.length_cons, List.length_nil, Nat.reduceAdd, Nat.reduceLeDiff, Nat.zero_add, true_and, and_true, dSeq, dNext, dBrk, dCont, dIfS, dRet, dRetV, dRetVO, dRetO, dSetO, List.map_cons, List.map_nil, dSet, dSetL, dSetD, dApp, dDrop, dPar, dPar3, dParL, dPut, dWhile, dFor, dAsg, dVar, dC, dOp, dUn, dB, dAnd, dOr, dNot, dAndV, dOrV, dNotV, dIf, dNil, dCons, dChain, dTup, dLst, dCB, dCall, dSl, dNo, dPart, dLc, dYes, dDix, dDget_eq, dDin, diL, diT, diR1, diR2, diS, diZ, dgName, dgNil, dgCons, dgTup, fI, fIc, fAdd, fMul, fEq, fNe, fLt, fLe, fGt, fGe, fLtA, fSub, fFdiv, fMod, fIsN, fNotN, fIsB, fNotB, fIx, fSl, fIn, fInS, fDix, cLen, cInt, cMax2, cMin2, cSum, cMaxL, cMinL, cAll, cAny, cTuple, cList, cSorted, cSortD, dRg, dZero, cIsi, dCntS, dIdxS, dRev, dPar3D, dPar3L, fMulT, dRetLcO, dLcO, dLstEn, dSortSet, dTupRg3, dSetAddO, dFrz, dParG, dSortSetT, dSetLiO, dSti, dIsi2, cRepr, cMinP, dTryFn, dTryFn2, fIsO, dXf, dDisp, dUpd, dLkA, dPrs, diK, dSortSetS, slotEnd, fIsE, dLam, dFld, dMet, dMake, D.py?, D.items, D.lsti, D.ty, D.kvs, keyD, pys, fre, isNonD, wipeS, Option.map, List.set, List.getElem?_cons_succ, List.getElem?_cons_zero])
/-! ### what each door tells -/
def lastBad (word : Str) (q : PyData) (x : Str) : Prop := ((word = "come" ∨ word = "many") ∧ withinB q 0 1000000000000000000 = false ∧ x = "NoTick") ∨ (word = "press" ∧ withinB q 1 1000000000000000000 = false ∧ x = "NoNumber") ∨
  ((word = "lot" ∨ word = "keeps" ∨ word = "is lot") ∧ withinB q 0 2000 = false ∧ x = "NoTick") ∨ (word = "burning" ∧ badF q ∧ x = "NoFraction")
def lastGood (word : Str) (q : PyData) : Prop := ((word = "come" ∨ word = "many" ∨ word = "press") ∧ q = .int 1000000000000000000) ∨ (word = "round" ∨ word = "shares") ∨ (word = "lot" ∧ q = .int 2000) ∨ ((word = "keeps" ∨ word = "is lot") ∧ q = .int 9) ∨ (word = "burning" ∧ q = .tuple [.int 1000, .int 999])
def EndsX (K : Kf) (r : Option Str) (post : D → Prop) (px : XP) : Prop := match r with
  | none => ∀ d : D, ¬ d.own → post d
  | some x => if x = "TooMany" then px (.ref (He.ga K "TooMany")) [("most", .int 200)] else px (.ref (He.ga K x)) []
theorem EndsX.err {K : Kf} {x : Str} {post : D → Prop} {px : XP} (h : EndsX K (some x) post px) (hx : x ≠ "TooMany" := by decide +kernel) : px (.ref (He.ga K x)) [] := by
  have h : (if x = "TooMany" then px (.ref (He.ga K "TooMany")) [("most", .int 200)] else px (.ref (He.ga K x)) []) := h
  rw [if_neg hx] at h; exact h
theorem EndsX.many {K : Kf} {post : D → Prop} {px : XP} (h : EndsX K (some "TooMany") post px) : px (.ref (He.ga K "TooMany")) [("most", .int 200)] := by
  have h : (if ("TooMany" : Str) = "TooMany" then px (.ref (He.ga K "TooMany")) [("most", .int 200)] else px (.ref (He.ga K "TooMany")) []) := h
  rw [if_pos rfl] at h; exact h
def Tells (word : Str) (q1 q2 q3 q4 : PyData) (r : Option Str) : Prop :=
  (stairB q1 = false ∧ r = some "NoStair") ∨ ∃ (day : Int) (lamps : List Int), q1 = stairPy day lamps ∧ OkStair day lamps ∧ wsOk q2 ∧
    ((walkersB day q2 = false ∧ r = some "NoWalkers") ∨ ∃ ws : List Walker, q2 = walkersPy ws ∧ OkWs day ws ∧
      ((withinB q3 0 (lamps.length - 1) = false ∧ r = some "NoLanding") ∨ ∃ landing : Int, q3 = .int landing ∧ 0 ≤ landing ∧ landing < lamps.length ∧
        ((∃ x : Str, x ≠ "TooMany" ∧ lastBad word q4 x ∧ r = some x) ∨ (lastGood word q4 ∧ r = none))))
theorem tells_gate {K : Kf} {word : Str} {q1 q2 q3 q4 : PyData} {r : Option Str} {post : D → Prop} {px : XP} {L : Prop} (h : Tells word q1 q2 q3 q4 r) (e : EndsX K r post px) (bad : ∀ x, lastBad word q4 x → px (.ref (He.ga K x)) [] → L) :
    (∃ (day : Int) (lamps : List Int) (ws : List Walker) (landing : Int), q1 = stairPy day lamps ∧ q2 = walkersPy ws ∧ q3 = .int landing ∧ OkAsk day lamps ws landing ∧ lastGood word q4 ∧ ∀ d : D, ¬ d.own → post d) ∨ gateL K q1 q2 q3 px L := by
  rcases h with ⟨h, rfl⟩ | ⟨day, lamps, rfl, os, w, ⟨h, rfl⟩ | ⟨ws, rfl, ow, ⟨h, rfl⟩ | ⟨landing, rfl, l0, l1, ⟨x, hx, h, rfl⟩ | ⟨h, rfl⟩⟩⟩⟩
  · exact .inr (.inl ⟨h, e.err⟩)
  · exact .inr (.inr ⟨day, lamps, rfl, os, w, .inl ⟨h, e.err⟩⟩)
  · exact .inr (.inr ⟨day, lamps, rfl, os, w, .inr ⟨ws, rfl, ow, .inl ⟨h, e.err⟩⟩⟩)
  · refine .inr (.inr ⟨day, lamps, rfl, os, w, .inr ⟨ws, rfl, ow, .inr ⟨?_, bad x h (e.err hx)⟩⟩⟩)
    show (decide (0 ≤ landing) && decide (landing ≤ (lamps.length : Int) - 1)) = true
    rw [Bool.and_eq_true, decide_eq_true_eq, decide_eq_true_eq]; omega
  · exact .inl ⟨day, lamps, ws, landing, rfl, rfl, rfl, ⟨os, ow, l0, l1⟩, h, e⟩
def E4 (K : Kf) (word : Str) : CtX := fun _ ds post px => ∃ (q1 q2 q3 q4 : PyData) (r : Option Str), ds = [.py q1, .py q2, .py q3, .py q4] ∧ Tells word q1 q2 q3 q4 r ∧ EndsX K r post px
def E3 (K : Kf) (word : Str) : CtX := fun _ ds post px => ∃ (q1 q2 q3 q4 : PyData) (r : Option Str), ds = [.py q1, .py q2, .py q3] ∧ Tells word q1 q2 q3 q4 r ∧ EndsX K r post px
def E5 (K : Kf) (word : Str) : CtX := fun _ ds post px => ∃ (q1 q2 q3 q4 : PyData) (r : Option Str), ds = [.py q1, .py q2, .py q3, .py q4, .py (.tuple [])] ∧ Tells word q1 q2 q3 q4 r ∧ EndsX K r post px
section
variable {P : Program} {w : World} {K : Kf} {mg : Str → Option Value} {base : Heap}
theorem door_come (c : CalO P w K mg base "come" ["stair", "walkers", "landing", "tick"] 6 C_come) (x : CalX P w K mg base "come" ["stair", "walkers", "landing", "tick"] 6 (D_tick K 1000000000000000000)) : CalX P w K mg base "come" ["stair", "walkers", "landing", "tick"] 6 (E4 K "come") :=
  CalX.imp (CalX.either (Cal.ofO c) x (Nat.le_refl _) (Nat.le_refl _)) fun B ds post px ⟨q1, q2, q3, q4, r, ed, t, en⟩ => by
    subst ed
    have bad : ∀ x, lastBad "come" q4 x → px (.ref (He.ga K x)) [] → (tickX K q4 1000000000000000000 px False) := fun x h hp => by
      rcases h with ⟨_, h, rfl⟩ | h | h | h
      · exact .inl ⟨h, hp⟩
      · exact absurd h.1 (by decide +kernel)
      · exact absurd h.1 (by decide +kernel)
      · exact absurd h.1 (by decide +kernel)
    rcases tells_gate t en bad with ⟨day, lamps, ws, landing, rfl, rfl, rfl, ok, g, hq⟩ | g
    · rcases g with ⟨_, rfl⟩ | h | h | h | h
      · exact .inl ⟨day, lamps, ws, landing, _, rfl, ok.s, ok.w, ok.l0, ok.l1, by decide, by decide, hq _ (fun z => z)⟩
      · exact absurd h (by decide +kernel)
      · exact absurd h.1 (by decide +kernel)
      · exact absurd h.1 (by decide +kernel)
      · exact absurd h.1 (by decide +kernel)
    · exact .inr ⟨q1, q2, q3, q4, rfl, g⟩
theorem door_many (c : Cal P w K mg base "how_many" ["stair", "walkers", "landing", "tick"] 7 C_many) (x : CalX P w K mg base "how_many" ["stair", "walkers", "landing", "tick"] 6 (D_tick K 1000000000000000000)) : CalX P w K mg base "how_many" ["stair", "walkers", "landing", "tick"] 7 (E4 K "many") :=
  CalX.imp (CalX.either c x (Nat.le_refl _) (by decide)) fun B ds post px ⟨q1, q2, q3, q4, r, ed, t, en⟩ => by
    subst ed
    have bad : ∀ x, lastBad "many" q4 x → px (.ref (He.ga K x)) [] → (tickX K q4 1000000000000000000 px False) := fun x h hp => by
      rcases h with ⟨_, h, rfl⟩ | h | h | h
      · exact .inl ⟨h, hp⟩
      · exact absurd h.1 (by decide +kernel)
      · exact absurd h.1 (by decide +kernel)
      · exact absurd h.1 (by decide +kernel)
    rcases tells_gate t en bad with ⟨day, lamps, ws, landing, rfl, rfl, rfl, ok, g, hq⟩ | g
    · rcases g with ⟨_, rfl⟩ | h | h | h | h
      · exact .inl ⟨day, lamps, ws, landing, _, rfl, ok, by decide, by decide, fun m _ _ => hq _ (fun z => z)⟩
      · exact absurd h (by decide +kernel)
      · exact absurd h.1 (by decide +kernel)
      · exact absurd h.1 (by decide +kernel)
      · exact absurd h.1 (by decide +kernel)
    · exact .inr ⟨q1, q2, q3, q4, rfl, g⟩
theorem door_press (c : Cal P w K mg base "press" ["stair", "walkers", "landing", "number"] 7 C_press) (x : CalX P w K mg base "press" ["stair", "walkers", "landing", "number"] 6 (D_num K)) : CalX P w K mg base "press" ["stair", "walkers", "landing", "number"] 7 (E4 K "press") :=
  CalX.imp (CalX.either c x (Nat.le_refl _) (by decide)) fun B ds post px ⟨q1, q2, q3, q4, r, ed, t, en⟩ => by
    subst ed
    have bad : ∀ x, lastBad "press" q4 x → px (.ref (He.ga K x)) [] → (numX K q4 px False) := fun x h hp => by
      rcases h with h | ⟨_, h, rfl⟩ | h | h
      · exact absurd h.1 (by decide +kernel)
      · exact .inl ⟨h, hp⟩
      · exact absurd h.1 (by decide +kernel)
      · exact absurd h.1 (by decide +kernel)
    rcases tells_gate t en bad with ⟨day, lamps, ws, landing, rfl, rfl, rfl, ok, g, hq⟩ | g
    · rcases g with ⟨_, rfl⟩ | h | h | h | h
      · exact .inl ⟨day, lamps, ws, landing, 999999999999999999, rfl, ok, by decide, hq _ (fun z => z)⟩
      · exact absurd h (by decide +kernel)
      · exact absurd h.1 (by decide +kernel)
      · exact absurd h.1 (by decide +kernel)
      · exact absurd h.1 (by decide +kernel)
    · exact .inr ⟨q1, q2, q3, q4, rfl, g⟩
theorem door_round (c : Cal P w K mg base "comes_round" ["stair", "walkers", "landing"] 7 C_round) (x : CalX P w K mg base "comes_round" ["stair", "walkers", "landing"] 6 (D_land K)) : CalX P w K mg base "comes_round" ["stair", "walkers", "landing"] 7 (E3 K "round") :=
  CalX.imp (CalX.either c x (Nat.le_refl _) (by decide)) fun B ds post px ⟨q1, q2, q3, q4, r, ed, t, en⟩ => by
    subst ed
    have bad : ∀ x, lastBad "round" q4 x → px (.ref (He.ga K x)) [] → (False) := fun x h hp => by
      rcases h with h | h | h | h
      · exact absurd h.1 (by decide +kernel)
      · exact absurd h.1 (by decide +kernel)
      · exact absurd h.1 (by decide +kernel)
      · exact absurd h.1 (by decide +kernel)
    rcases tells_gate t en bad with ⟨day, lamps, ws, landing, rfl, rfl, rfl, ok, g, hq⟩ | g
    · exact .inl ⟨day, lamps, ws, landing, rfl, ok, fun _ _ _ _ _ => hq _ (fun z => z)⟩
    · exact .inr ⟨q1, q2, q3, rfl, g⟩
theorem door_shares (c : Cal P w K mg base "shares" ["stair", "walkers", "landing"] 7 C_shares) (x : CalX P w K mg base "shares" ["stair", "walkers", "landing"] 6 (D_land K)) : CalX P w K mg base "shares" ["stair", "walkers", "landing"] 7 (E3 K "shares") :=
  CalX.imp (CalX.either c x (Nat.le_refl _) (by decide)) fun B ds post px ⟨q1, q2, q3, q4, r, ed, t, en⟩ => by
    subst ed
    have bad : ∀ x, lastBad "shares" q4 x → px (.ref (He.ga K x)) [] → (False) := fun x h hp => by
      rcases h with h | h | h | h
      · exact absurd h.1 (by decide +kernel)
      · exact absurd h.1 (by decide +kernel)
      · exact absurd h.1 (by decide +kernel)
      · exact absurd h.1 (by decide +kernel)
    rcases tells_gate t en bad with ⟨day, lamps, ws, landing, rfl, rfl, rfl, ok, g, hq⟩ | g
    · exact .inl ⟨day, lamps, ws, landing, rfl, ok, fun _ _ _ _ _ => hq _ (fun z => z)⟩
    · exact .inr ⟨q1, q2, q3, rfl, g⟩
theorem door_lot (c : Cal P w K mg base "lot" ["stair", "walkers", "landing", "end"] 7 C_lot) (x : CalX P w K mg base "lot" ["stair", "walkers", "landing", "end"] 7 (D_tick K 2000)) : CalX P w K mg base "lot" ["stair", "walkers", "landing", "end"] 7 (E4 K "lot") :=
  CalX.imp (CalX.either c x (by decide) (by decide)) fun B ds post px ⟨q1, q2, q3, q4, r, ed, t, en⟩ => by
    subst ed
    have bad : ∀ x, lastBad "lot" q4 x → px (.ref (He.ga K x)) [] → (tickX K q4 2000 px False) := fun x h hp => by
      rcases h with h | h | ⟨_, h, rfl⟩ | h
      · exact absurd h.1 (by decide +kernel)
      · exact absurd h.1 (by decide +kernel)
      · exact .inl ⟨h, hp⟩
      · exact absurd h.1 (by decide +kernel)
    rcases tells_gate t en bad with ⟨day, lamps, ws, landing, rfl, rfl, rfl, ok, g, hq⟩ | g
    · rcases g with h | h | ⟨_, rfl⟩ | h | h
      · exact absurd h.1 (by decide +kernel)
      · exact absurd h (by decide +kernel)
      · exact .inl ⟨day, lamps, ws, landing, _, rfl, ok, by decide, by decide, fun m _ => hq _ (fun z => z)⟩
      · exact absurd h.1 (by decide +kernel)
      · exact absurd h.1 (by decide +kernel)
    · exact .inr ⟨q1, q2, q3, q4, rfl, g⟩
theorem short_nil : shortQ (.tuple []) := fun l e => by cases e; decide
theorem door_keeps (c : Cal P w K mg base "are_keeping" ["stair", "walkers", "landing", "end", "thing"] 7 C_arekeeping) (x : CalX P w K mg base "are_keeping" ["stair", "walkers", "landing", "end", "thing"] 7 (D_tick5 K 2000)) : CalX P w K mg base "are_keeping" ["stair", "walkers", "landing", "end", "thing"] 7 (E5 K "keeps") :=
  CalX.imp (CalX.either c x (by decide) (by decide)) fun B ds post px ⟨q1, q2, q3, q4, r, ed, t, en⟩ => by
    subst ed
    have bad : ∀ x, lastBad "keeps" q4 x → px (.ref (He.ga K x)) [] → (tickX K q4 2000 px False) := fun x h hp => by
      rcases h with h | h | ⟨_, h, rfl⟩ | h
      · exact absurd h.1 (by decide +kernel)
      · exact absurd h.1 (by decide +kernel)
      · exact .inl ⟨h, hp⟩
      · exact absurd h.1 (by decide +kernel)
    rcases tells_gate t en bad with ⟨day, lamps, ws, landing, rfl, rfl, rfl, ok, g, hq⟩ | g
    · rcases g with h | h | h | ⟨_, rfl⟩ | h
      · exact absurd h.1 (by decide +kernel)
      · exact absurd h (by decide +kernel)
      · exact absurd h.1 (by decide +kernel)
      · exact .inl ⟨day, lamps, ws, landing, _, _, rfl, ok, by decide, by decide, short_nil, hq _ (fun z => z)⟩
      · exact absurd h.1 (by decide +kernel)
    · exact .inr ⟨q1, q2, q3, q4, _, rfl, g⟩
theorem door_islot (c : Cal P w K mg base "is_lot" ["stair", "walkers", "landing", "end", "thing"] 7 C_islot) (x : CalX P w K mg base "is_lot" ["stair", "walkers", "landing", "end", "thing"] 7 (D_tick5 K 2000)) : CalX P w K mg base "is_lot" ["stair", "walkers", "landing", "end", "thing"] 7 (E5 K "is lot") :=
  CalX.imp (CalX.either c x (by decide) (by decide)) fun B ds post px ⟨q1, q2, q3, q4, r, ed, t, en⟩ => by
    subst ed
    have bad : ∀ x, lastBad "is lot" q4 x → px (.ref (He.ga K x)) [] → (tickX K q4 2000 px False) := fun x h hp => by
      rcases h with h | h | ⟨_, h, rfl⟩ | h
      · exact absurd h.1 (by decide +kernel)
      · exact absurd h.1 (by decide +kernel)
      · exact .inl ⟨h, hp⟩
      · exact absurd h.1 (by decide +kernel)
    rcases tells_gate t en bad with ⟨day, lamps, ws, landing, rfl, rfl, rfl, ok, g, hq⟩ | g
    · rcases g with h | h | h | ⟨_, rfl⟩ | h
      · exact absurd h.1 (by decide +kernel)
      · exact absurd h (by decide +kernel)
      · exact absurd h.1 (by decide +kernel)
      · exact .inl ⟨day, lamps, ws, landing, _, _, rfl, ok, by decide, by decide, short_nil, hq _ (fun z => z)⟩
      · exact absurd h.1 (by decide +kernel)
    · exact .inr ⟨q1, q2, q3, q4, _, rfl, g⟩
theorem door_burning {k : Nat} (hk : 6 ≤ k) (c : Cal P w K mg base "least_burning" ["stair", "walkers", "landing", "fraction"] k C_least) (x : CalX P w K mg base "least_burning" ["stair", "walkers", "landing", "fraction"] 6 (D_frac K)) : CalX P w K mg base "least_burning" ["stair", "walkers", "landing", "fraction"] k (E4 K "burning") :=
  CalX.imp (CalX.either c x (Nat.le_refl _) hk) fun B ds post px ⟨q1, q2, q3, q4, r, ed, t, en⟩ => by
    subst ed
    have bad : ∀ x, lastBad "burning" q4 x → px (.ref (He.ga K x)) [] → (badF q4 ∧ px (.ref (He.ga K "NoFraction")) []) := fun x h hp => by
      rcases h with h | h | h | ⟨_, h, rfl⟩
      · exact absurd h.1 (by decide +kernel)
      · exact absurd h.1 (by decide +kernel)
      · exact absurd h.1 (by decide +kernel)
      · exact ⟨h, hp⟩
    rcases tells_gate t en bad with ⟨day, lamps, ws, landing, rfl, rfl, rfl, ok, g, hq⟩ | g
    · rcases g with h | h | h | h | ⟨_, rfl⟩
      · exact absurd h.1 (by decide +kernel)
      · exact absurd h (by decide +kernel)
      · exact absurd h.1 (by decide +kernel)
      · exact absurd h.1 (by decide +kernel)
      · exact .inl ⟨day, lamps, ws, landing, 1000, 999, rfl, ok, by decide, by decide, by decide, by decide, by decide, fun _ _ => hq _ (fun z => z)⟩
    · exact .inr ⟨q1, q2, q3, q4, rfl, g⟩
end
/-! ### best_begin refuses -/
def badN (q : PyData) (ws : List Walker) : Prop := q = .none ∨ ∃ z : Str, q = .str z ∧ ∀ u ∈ ws, u.nm ≠ z
def D_best (K : Kf) : CtX := fun _ ds _ px => ∃ q1 q2 q3 : PyData, ds = [.py q1, .py q2, .py q3] ∧ gateX K q1 q2 px fun day _ ws => (badN q3 ws ∧ px (.ref (He.ga K "NoName")) []) ∨ ∃ u ∈ ws, q3 = .str u.nm ∧ 200 < day ∧ px (.ref (He.ga K "TooMany")) [("most", .int 200)]
theorem eqv_str (a b : Str) : PyData.eqv (.str a) (.str b) = decide (a = b) := by
  by_cases h : a = b
  · subst h; simp [PyData.eqv]
  · simp [PyData.eqv, h]
section
variable {P : Program} {w : World} {K : Kf} {mg : Str → Option Value} {base : Heap}
theorem cal_best_beginX (d : Def K mg "best_begin" s_best_begin) (T : Bl mg) (TMOST : ∃ t, mg "MOST" = some (.int 200 t)) (X_NoName : ExcK K mg "NoName" (He.ga K "NoName")) (XO_TooMany : ExcO P w K mg base "TooMany" (He.ga K "TooMany") 1 "most") (x_need_house : CalX P w K mg base "need_house" ["stair", "walkers"] 4 (C_needhouseX K)) : CalX P w K mg base "best_begin" ["stair", "walkers", "name"] 6 (D_best K) := by
  refine calDX d sc_best_begin (fun B ds post px ⟨_, _, _, e, _⟩ => by subst e; exact ⟨rfl, fun d hd => by simp at hd; rcases hd with rfl | rfl | rfl <;> exact free_py⟩) (fun _ _ _ _ _ _ _ us hl => match us, hl with | [_, _, _], _ => rfl) (fun f cdv A outer s H E B G ds post px hr tk c => ⟨_, (pdx_cons (pdx_drop (pdx_cal x_need_house tk hr (pda_cons (pd_var 0) (pda_cons (pd_var 1) pda_nil))))
        (pdx_cons (pdx_of (psd_setLc (i := 3) (own := [("walker", 7)]) (g := (dgName 7)) (t := dYes) rfl sc_best_begin.nd rfl rfl (sw_true rfl rfl rfl (by decide +kernel)) (pdi_tup (pd_var 1)) (blkOk_by (N := ["stair", "walkers", "name", "names", "at", "best", "begin", "walker", "found"]) (sc := defScope s_best_begin) (by decide +kernel)) (fun _ _ _ _ _ => (pdg_name (i := 7) sc_best_begin.nd rfl (Or.inl rfl))) (fun _ _ _ _ _ => ptd_nil) (fun _ _ _ _ _ => (pd_ix (pd_var 7) pd_int))))
        (pdx_cons (pdx_if (PDW.t (pdw_or (pdt_not (pdt_val (pd_isi T (pd_var 2) (pd_ty (by rfl) T.str bo_str)))) (pdw_or1 (pdt_cmp op_notIn_seq od_notIn (pd_var 2) (pd_var 3) (by rfl))))) (pdx_one (pdx_raise rfl tk X_NoName)) pdx_nil)
        (pdx_cons (pdx_if (pdt_cmp op_gt od_gt (pd_ix (pd_var 0) pd_int) (pd_globI (by rfl) TMOST) (nomark _)) (pdx_one (pdx_raiseO rfl tk XO_TooMany hr (pda_cons (pd_globI (by rfl) TMOST) pda_nil))) pdx_nil)
        pdx_none)))), ?_⟩)
  obtain ⟨q1, q2, q3, rfl, g⟩ := c
  refine at_st (S' := [some (.py q1), some (.py q2), some (.py q3), none, none, none, none, none, none]) rfl ?_
  walk_at "dl"
  refine ⟨_, _, rfl, gateX.imp g fun day lamps ws e1 e2 os ow z => ?_⟩
  subst e1 e2
  have hw8 := ow.n2
  walk_at "dl"
  refine ⟨fun i acc => acc = (pStrs (ws.map (·.nm))).take i, rfl, ?_, ?_⟩
  · rintro i d acc hi rfl
    obtain ⟨v, hv, rfl⟩ := map_get hi
    have key : (pStrs (ws.map (·.nm)))[i]? = some (.str v.nm) := map_get2 (f := PyData.str) (map_get2 (f := fun x : Walker => x.nm) hv)
    have hi2 := (List.getElem?_eq_some_iff.mp hv).1
    walk_at "dl"
    refine ⟨?_, (take_more key).symm⟩
    rw [List.length_take]; omega
  rintro acc rfl
  have e1 : (ws.map Walker.py).length = (pStrs (ws.map (·.nm))).length := by rw [pStrs, List.length_map, List.length_map, List.length_map]
  rw [e1, List.take_length]
  have hflat : (pStrs (ws.map (·.nm))).all flatP = true := List.all_eq_true.mpr fun x hx => by
    obtain ⟨z, _, rfl⟩ := List.mem_map.mp hx; rfl
  rcases z with ⟨rfl | ⟨s, rfl, hs⟩, hp⟩ | ⟨u, hu, rfl, d200, hp⟩
  · exact ⟨by decide, if_nb (fun _ => hp) fun z => absurd z (by decide)⟩
  · have hany : (pStrs (ws.map (·.nm))).any (fun e => e.eqv (PyData.str s)) = false := List.any_eq_false.mpr fun x hx => by
      obtain ⟨z, hz, rfl⟩ := List.mem_map.mp hx
      obtain ⟨u, hu, rfl⟩ := List.mem_map.mp hz
      rw [eqv_str, decide_eq_true_eq]; exact hs u hu
    exact ⟨by decide, if_nb (fun z => absurd z (by decide)) fun _ => ⟨rfl, hflat, if_nb (fun _ => hp) fun z => by rw [hany] at z; cases z⟩⟩
  · have hany : (pStrs (ws.map (·.nm))).any (fun e => e.eqv (PyData.str u.nm)) = true := List.any_eq_true.mpr ⟨.str u.nm, List.mem_map.mpr ⟨_, List.mem_map.mpr ⟨u, hu, rfl⟩, rfl⟩, by rw [eqv_str]; exact decide_eq_true rfl⟩
    exact ⟨by decide, if_nb (fun z => absurd z (by decide)) fun _ => ⟨rfl, hflat, if_nb (fun z => by rw [hany] at z; cases z) fun _ => if_dec (fun _ => ⟨200, rfl, hp⟩) fun z => absurd d200 z⟩⟩
end
/-! ### .. or tells -/
def annW : Walker := ⟨"ann", 0, 0, true⟩
def TellsB (q1 q2 q3 : PyData) (r : Option Str) : Prop :=
  (stairB q1 = false ∧ r = some "NoStair") ∨ ∃ (day : Int) (lamps : List Int), q1 = stairPy day lamps ∧ OkStair day lamps ∧ wsOk q2 ∧
    ((walkersB day q2 = false ∧ r = some "NoWalkers") ∨ ∃ ws : List Walker, q2 = walkersPy ws ∧ OkWs day ws ∧
      ((badN q3 ws ∧ r = some "NoName") ∨ (∃ u ∈ ws, q3 = .str u.nm ∧ 200 < day ∧ r = some "TooMany") ∨ (day = 3 ∧ lamps = [2] ∧ ws = [annW] ∧ q3 = .str "ann" ∧ r = none)))
def EB (K : Kf) : CtX := fun _ ds post px => ∃ (q1 q2 q3 : PyData) (r : Option Str), ds = [.py q1, .py q2, .py q3] ∧ TellsB q1 q2 q3 r ∧ EndsX K r post px
theorem ann_small : Small 3 [2] [annW] 2 where
  lp := fun x hx => by
    obtain rfl := List.mem_singleton.mp hx
    show ((1 : Nat) : Int) * (2 + 3) ≤ 2 * 3; decide
  m1 := by decide
  pw := by decide
section
variable {P : Program} {w : World} {K : Kf} {mg : Str → Option Value} {base : Heap}
theorem door_best (c : Cal P w K mg base "best_begin" ["stair", "walkers", "name"] 8 C_best) (x : CalX P w K mg base "best_begin" ["stair", "walkers", "name"] 6 (D_best K)) : CalX P w K mg base "best_begin" ["stair", "walkers", "name"] 8 (EB K) :=
  CalX.imp (CalX.either c x (Nat.le_refl _) (by decide)) fun B ds post px ⟨q1, q2, q3, r, ed, t, en⟩ => by
    subst ed
    rcases t with ⟨h, rfl⟩ | ⟨day, lamps, rfl, os, w, ⟨h, rfl⟩ | ⟨ws, rfl, ow, ⟨h, rfl⟩ | ⟨u, hu, rfl, hd, rfl⟩ | ⟨rfl, rfl, rfl, rfl, rfl⟩⟩⟩
    · exact .inr ⟨_, _, _, rfl, .inl ⟨h, en.err⟩⟩
    · exact .inr ⟨_, _, _, rfl, .inr ⟨day, lamps, rfl, os, w, .inl ⟨h, en.err⟩⟩⟩
    · exact .inr ⟨_, _, _, rfl, .inr ⟨day, lamps, rfl, os, w, .inr ⟨ws, rfl, ow, .inl ⟨h, en.err⟩⟩⟩⟩
    · exact .inr ⟨_, _, _, rfl, .inr ⟨day, lamps, rfl, os, w, .inr ⟨ws, rfl, ow, .inr ⟨u, hu, rfl, hd, en.many⟩⟩⟩⟩
    · exact .inl ⟨3, [2], [annW], 2, 0, annW, rfl, os, ow, ann_small, by decide, rfl, en _ (fun z => z)⟩
end
/-! ### all doors by their words -/
def TellsW (word : Str) (q1 q2 q3 q4 : PyData) (r : Option Str) : Prop := (word ∈ (["come", "press", "many", "round", "shares", "lot", "keeps", "is lot", "burning"] : List Str) ∧ Tells word q1 q2 q3 q4 r) ∨ (word = "best" ∧ TellsB q1 q2 q3 r)
def C_asked (K : Kf) : CtX := fun _ ds post px => ∃ (word : Str) (q1 q2 q3 q4 : PyData) (r : Option Str), ds = [.py (.str word), .py q1, .py q2, .py q3, .py q4] ∧ TellsW word q1 q2 q3 q4 r ∧ EndsX K r post px
theorem fre_in {d : D} {p : Prop} (h : ¬ d.own → p) (hd : ¬ d.own) : fre d p := by
  cases d with
  | ol _ => exact absurd trivial hd
  | od _ => exact absurd trivial hd
  | _ => exact h hd
abbrev s__law_asked : Stmt := top 57
theorem sc__law_asked : FnScope ["word", "stair", "walkers", "landing", "last"] ["word", "stair", "walkers", "landing", "last"] (defScope s__law_asked) := ⟨rfl, rfl, rfl, by decide +kernel, rfl, by decide +kernel, by decide +kernel⟩
theorem EndsX.frel {K : Kf} {r : Option Str} {post : D → Prop} {px : XP} (h : EndsX K r post px) : EndsX K r (fun x => fre x (post x)) px := by
  cases r with
  | none => exact fun d hd => fre_in (h d) hd
  | some x => exact h
section
variable {P : Program} {w : World} {K : Kf} {mg : Str → Option Value} {base : Heap}
theorem cal_law_asked (d : Def K mg "_law_asked" s__law_asked) (T : Bl mg) (x_come : CalX P w K mg base "come" ["stair", "walkers", "landing", "tick"] 6 (E4 K "come")) (x_press : CalX P w K mg base "press" ["stair", "walkers", "landing", "number"] 7 (E4 K "press")) (x_how_many : CalX P w K mg base "how_many" ["stair", "walkers", "landing", "tick"] 7 (E4 K "many"))
    (x_comes_round : CalX P w K mg base "comes_round" ["stair", "walkers", "landing"] 7 (E3 K "round")) (x_shares : CalX P w K mg base "shares" ["stair", "walkers", "landing"] 7 (E3 K "shares")) (x_lot : CalX P w K mg base "lot" ["stair", "walkers", "landing", "end"] 7 (E4 K "lot")) (x_are_keeping : CalX P w K mg base "are_keeping" ["stair", "walkers", "landing", "end", "thing"] 7 (E5 K "keeps")) (x_is_lot : CalX P w K mg base "is_lot" ["stair", "walkers", "landing", "end", "thing"] 7 (E5 K "is lot"))
    (x_least_burning : CalX P w K mg base "least_burning" ["stair", "walkers", "landing", "fraction"] 6 (E4 K "burning")) (x_best_begin : CalX P w K mg base "best_begin" ["stair", "walkers", "name"] 8 (EB K)) : CalX P w K mg base "_law_asked" ["word", "stair", "walkers", "landing", "last"] 9 (C_asked K) := by
  refine calDX d sc__law_asked (fun B ds post px ⟨_, _, _, _, _, _, e, _⟩ => by subst e; exact ⟨rfl, fun d hd => by simp at hd; rcases hd with rfl | rfl | rfl | rfl | rfl <;> exact free_py⟩) (fun _ _ _ _ _ _ _ us hl => match us, hl with | [_, _, _, _, _], _ => rfl) (fun f cdv A outer s H E B G ds post px hr tk c => ⟨_, (pdx_cons (pdx_if (pdt_cmp (op_eqA hr.units) od_eq (pd_var 0) pd_str (nomark _)) (pdx_one (pdx_ret (pdx_cal x_come tk hr (pda_cons (pd_var 1) (pda_cons (pd_var 2) (pda_cons (pd_var 3) (pda_cons (pd_var 4) pda_nil))))))) pdx_nil)
        (pdx_cons (pdx_if (pdt_cmp (op_eqA hr.units) od_eq (pd_var 0) pd_str (nomark _)) (pdx_one (pdx_ret (pdx_cal x_press tk hr (pda_cons (pd_var 1) (pda_cons (pd_var 2) (pda_cons (pd_var 3) (pda_cons (pd_var 4) pda_nil))))))) pdx_nil)
        (pdx_cons (pdx_if (pdt_cmp (op_eqA hr.units) od_eq (pd_var 0) pd_str (nomark _)) (pdx_one (pdx_ret (pdx_cal x_how_many tk hr (pda_cons (pd_var 1) (pda_cons (pd_var 2) (pda_cons (pd_var 3) (pda_cons (pd_var 4) pda_nil))))))) pdx_nil)
        (pdx_cons (pdx_if (pdt_cmp (op_eqA hr.units) od_eq (pd_var 0) pd_str (nomark _)) (pdx_one (pdx_ret (pdx_cal x_comes_round tk hr (pda_cons (pd_var 1) (pda_cons (pd_var 2) (pda_cons (pd_var 3) pda_nil)))))) pdx_nil)
        (pdx_cons (pdx_if (pdt_cmp (op_eqA hr.units) od_eq (pd_var 0) pd_str (nomark _)) (pdx_one (pdx_ret (pdx_cal x_shares tk hr (pda_cons (pd_var 1) (pda_cons (pd_var 2) (pda_cons (pd_var 3) pda_nil)))))) pdx_nil)
        (pdx_cons (pdx_if (pdt_cmp (op_eqA hr.units) od_eq (pd_var 0) pd_str (nomark _)) (pdx_one (pdx_ret (pdx_cal x_lot tk hr (pda_cons (pd_var 1) (pda_cons (pd_var 2) (pda_cons (pd_var 3) (pda_cons (pd_var 4) pda_nil))))))) pdx_nil)
        (pdx_cons (pdx_if (pdt_cmp (op_eqA hr.units) od_eq (pd_var 0) pd_str (nomark _)) (pdx_one (pdx_ret (pdx_cal x_are_keeping tk hr (pda_cons (pd_var 1) (pda_cons (pd_var 2) (pda_cons (pd_var 3) (pda_cons (pd_var 4) (pda_cons (pd_tup pda_nil) pda_nil)))))))) pdx_nil)
        (pdx_cons (pdx_if (pdt_cmp (op_eqA hr.units) od_eq (pd_var 0) pd_str (nomark _)) (pdx_one (pdx_ret (pdx_cal x_is_lot tk hr (pda_cons (pd_var 1) (pda_cons (pd_var 2) (pda_cons (pd_var 3) (pda_cons (pd_var 4) (pda_cons (pd_tup pda_nil) pda_nil)))))))) pdx_nil)
        (pdx_cons (pdx_if (pdt_cmp (op_eqA hr.units) od_eq (pd_var 0) pd_str (nomark _)) (pdx_one (pdx_ret (pdx_cal x_least_burning tk hr (pda_cons (pd_var 1) (pda_cons (pd_var 2) (pda_cons (pd_var 3) (pda_cons (pd_var 4) pda_nil))))))) pdx_nil)
        (pdx_one (pdx_ret (pdx_cal x_best_begin tk hr (pda_cons (pd_var 1) (pda_cons (pd_var 2) (pda_cons (pd_var 3) pda_nil))))))))))))))), ?_⟩)
  obtain ⟨word, q1, q2, q3, q4, r, rfl, t, en⟩ := c
  have en := en.frel
  refine at_st (S' := [some (.py (.str word)), some (.py q1), some (.py q2), some (.py q3), some (.py q4)]) rfl ?_
  walk_at "dl"
  have no : ∀ {a b : Str} {A B : Prop}, a ≠ b → B → (if decide (a = b) = true then A else B) := fun h z => by rw [if_neg (by rw [decide_eq_true_eq]; exact h)]; exact z
  have yes : ∀ {a : Str} {A B : Prop}, A → (if decide (a = a) = true then A else B) := fun z => by rw [if_pos (decide_eq_true rfl)]; exact z
  rcases t with ⟨hw, t⟩ | ⟨rfl, t⟩
  · simp only [List.mem_cons, List.mem_nil_iff, or_false] at hw
    rcases hw with rfl | rfl | rfl | rfl | rfl | rfl | rfl | rfl | rfl
    all_goals repeat (first | refine yes ?_ | refine no (by decide +kernel) ?_)
    all_goals exact ⟨q1, q2, q3, q4, r, rfl, t, en⟩
  · repeat (first | refine yes ?_ | refine no (by decide +kernel) ?_)
    exact ⟨q1, q2, q3, r, rfl, t, en⟩
end
/-! ### the law's lambda -/
abbrev s__law_kin_of : Stmt := top 58
theorem sc__law_kin_of : FnScope ["word", "stair", "walkers", "landing", "last"] ["word", "stair", "walkers", "landing", "last"] (defScope s__law_kin_of) := ⟨rfl, rfl, rfl, by decide +kernel, rfl, by decide +kernel, by decide +kernel⟩
def lamOf (e : Option Expr) : LamD := match e with
  | some (.Lambda p b s _) => ⟨qlam, p, b, s⟩
  | _ => ⟨qlam, { posonlyargs := [], args := [], vararg := none, kwonlyargs := [], kw_defaults := [], kwarg := none, defaults := [] }, .List [] ⟨0, 0, 0, 0⟩, { kind := .function, names := [], isGenerator := false, isCoroutine := false, more := [] }⟩
def stAt (l : List Stmt) (i : Nat) : Stmt := l.getD i (.Pass ⟨0, 0, 0, 0⟩)
def retVal : Stmt → Option Expr
  | .Return e _ => e
  | _ => none
def callArg0 : Option Expr → Option Expr
  | some (.Call _ (a :: _) _ _) => some a
  | _ => none
def lamX : Option Expr := callArg0 (retVal (stAt (defBody s__law_kin_of) 0))
def posOf (e : Option Expr) : Pos := match e with
  | some (.Lambda _ _ _ p) => p
  | _ => ⟨0, 0, 0, 0⟩
def lamL : LamD := lamOf lamX
def lamPos : Pos := posOf lamX
theorem lam_q : lamL.q = qlam := by kernel_rfl
theorem qlam_eq : (("_law_kin_of" : Str) ++ (".<locals>." : Str)) ++ ("<lambda>" : Str) = lamL.q := by rw [lam_q]; decide +kernel
theorem lam_nodef : lamL.params.defaults = [] ∧ lamL.params.kw_defaults = [] := ⟨by kernel_rfl, by kernel_rfl⟩
theorem defs_nil {p : Arguments} {env : Env} (h1 : p.defaults = []) (h2 : p.kw_defaults = []) : defaultsOf p env = ([], []) := by
  obtain ⟨a1, a2, a3, a4, a5, a6, a7⟩ := p
  subst h1 h2
  unfold defaultsOf
  rfl
theorem lam_def (env : Env) : defaultsOf lamL.params env = ([], []) := defs_nil lam_nodef.1 lam_nodef.2
theorem pd_lamE {X : Cx} {c T : Addr} {bs : List Addr} {H0 : Hp} {L : LamD} {pos : Pos} {e : Expr} (TB : LamX.TabB X.base X.mg c T) (hcode : X.env.code = .ref c) (hq : X.env.qual ++ "<lambda>" = L.q) (hl : L.q = qlam) (hdef : defaultsOf L.params X.env = ([], [])) (hfree : ∀ y ∈ L.scope.names, y.2 ≠ .free)
    (he : e = .Lambda L.params L.body L.scope pos) : PD X (T :: bs) H0 e (dLam L) := by subst he; exact pd_lam TB hcode hq hl hdef hfree
theorem lam_free : ∀ y ∈ lamL.scope.names, y.2 ≠ .free := by decide +kernel
/-! ### what a call is refused by -/
def errNames : List Str := ["NoStair", "NoWalkers", "NoName", "NoLanding", "NoTick", "NoNumber", "NoFraction"]
structure ClsG (mg : Str → Option Value) (x : Str) (C : Addr) : Prop where
  g : mg x = some (.ref C)
/-- the classes of the refusals as the written part has them -/
structure RefK (K : Kf) (mg : Str → Option Value) : Prop where
  k : ∀ x ∈ errNames, ExcK K mg x (He.ga K x)
  c : ∀ x ∈ errNames, ExcC K (He.ga K x)
  i : ∀ x ∈ errNames, ∀ y ∈ errNames, PySem.W.kitOne K (.ref (He.ga K x)) (.ref (He.ga K y)) = some (decide (x = y))
  v : ∀ x ∈ errNames, PySem.W.kitOne K (.ref (He.ga K x)) (.type "ValueError") = some true
  t : ∀ x ∈ errNames, PySem.W.exmOne K (.ref (He.ga K x)) (.ref (He.ga K "TooMany")) = some false
  l : ∀ x ∈ errNames, PySem.W.exmOne K (.ref (He.ga K x)) (.ref (He.ga K "LampError")) = some true
  gt : ClsG mg "TooMany" (He.ga K "TooMany")
  gl : ClsG mg "LampError" (He.ga K "LampError")
  mc : ExcC K (He.ga K "TooMany")
  mf : PySem.W.findIn K (.ref (He.ga K "TooMany")) "most" = some none
  mt : PySem.W.exmOne K (.ref (He.ga K "TooMany")) (.ref (He.ga K "TooMany")) = some true
  mn : PySem.W.kitOne K (.ref (He.ga K "TooMany")) (.ref (He.ga K "NoName")) = some false
  mv : PySem.W.kitOne K (.ref (He.ga K "TooMany")) (.type "ValueError") = some true
def kinL : Option Str → List PyData
  | none => []
  | some x => if x = "TooMany" then [.str "TooMany", .int 200, .bool false, .bool true] else [.str x, .bool true]
def C_refused (P : Program) (w : World) (K : Kf) (mg : Str → Option Value) (base : Heap) (k : Nat) : Ct := fun B ds post => ∃ (L : LamD) (j n : Nat) (C : CtX) (d1 d2 d3 d4 d5 : PyData), ds = [.fn L, .py d1, .py d2, .py d3, .py d4, .py d5] ∧ LamCal P w K mg base L j n C ∧ j ≤ k ∧
  C B [.py d1, .py d2, .py d3, .py d4, .py d5] (fun _ => post (.py (.list []))) (fun cls fs => (fs = [] ∧ ∃ x ∈ errNames, cls = .ref (He.ga K x) ∧ post (.py (.list [.str x, .bool true]))) ∨
    (fs = ([(("most" : Str), PyData.int 200)] : List (Str × PyData)) ∧ cls = .ref (He.ga K "TooMany") ∧ post (.py (.list [.str "TooMany", .int 200, .bool false, .bool true]))))
abbrev s__law_refused : Stmt := top 56
theorem sc__law_refused : FnScope ["call", "one", "two", "three", "four", "five", "kin", "e", "words", "word", "there"] ["call", "one", "two", "three", "four", "five"] (defScope s__law_refused) := ⟨rfl, rfl, rfl, by decide +kernel, rfl, by decide +kernel, by decide +kernel⟩
def pairP (p : Str × Bool) : PyData := .tuple [.str p.1, .bool p.2]
def asksOf (x : Str) : List (Str × Bool) := errNames.map fun y => (y, decide (x = y))
theorem asks_end (x : Str) (h : x ∈ errNames) : ((asksOf x).filter (·.2)).map (fun p => PyData.str p.1) = [PyData.str x] := by
  have key : ∀ x ∈ errNames, ((asksOf x).filter (·.2)).map (·.1) = [x] := by decide +kernel
  have e := congrArg (List.map PyData.str) (key x h)
  rw [List.map_map] at e
  exact e
section
variable {P : Program} {w : World} {K : Kf} {mg : Str → Option Value} {base : Heap}
theorem cal_law_refused (d : Def K mg "_law_refused" s__law_refused) (T : Bl mg) (R : RefK K mg) : Cal P w K mg base "_law_refused" ["call", "one", "two", "three", "four", "five"] 11 (C_refused P w K mg base 10) := by
  have X_NoStair := R.k "NoStair" (by decide)
  have X_NoWalkers := R.k "NoWalkers" (by decide)
  have X_NoName := R.k "NoName" (by decide)
  have X_NoLanding := R.k "NoLanding" (by decide)
  have X_NoTick := R.k "NoTick" (by decide)
  have X_NoNumber := R.k "NoNumber" (by decide)
  have X_NoFraction := R.k "NoFraction" (by decide)
  have X_TooMany := R.gt
  have X_LampError := R.gl
  refine calD d sc__law_refused (fun B ds post ⟨L, j, n, C, d1, d2, d3, d4, d5, e, _⟩ => by subst e; exact ⟨rfl, fun d hd => by simp at hd; rcases hd with rfl | rfl | rfl | rfl | rfl | rfl <;> first | exact free_py | exact free_fn⟩) (fun _ _ _ _ _ _ _ us hl => match us, hl with | [_, _, _, _, _, _], _ => rfl) (fun f cdv A outer s H E B ds post hr c => ⟨_, (psd_cons (psd_set (i := 6) sc__law_refused.nd rfl (Or.inl rfl) (pd_lst pda_nil))
        (psd_cons (psd_tryFn2 (i := 7) (ic := 0) (fld := "most") rfl rfl sc__law_refused.nd rfl rfl ⟨rfl, rfl, .inl X_TooMany.g⟩ ⟨rfl, rfl, .inl X_LampError.g⟩ rfl (Or.inl rfl) hr (fun pn xe => (pda_cons (pd_var 1) (pda_cons (pd_var 2) (pda_cons (pd_var 3) (pda_cons (pd_var 4) (pda_cons (pd_var 5) pda_nil)))))) (fun a oe Dc dd pn hz hfl CE hno => (psd_one (psd_set (i := 6) sc__law_refused.nd rfl (Or.inl rfl) (pd_lst (pda_cons pd_str (pda_cons (pd_xf (ExcC.xf CE) hno hz hfl (pd_var 7)) (pda_cons (pd_isO T CE hz hfl (pd_var 7) (pd_cls (by rfl) X_NoName.g)) (pda_cons (pd_isO T CE hz hfl (pd_var 7) (pd_ty (by rfl) T.ValueError bo_ValueError)) pda_nil)))))))) (fun a oe Dc pn hz hfl CE => (psd_cons (psd_set (i := 8) sc__law_refused.nd rfl (Or.inl rfl) (pd_lst (pda_cons (pd_tup (pda_cons pd_str (pda_cons (pd_isE T CE hz hfl (pd_var 7) (pd_cls (by rfl) X_NoStair.g)) pda_nil))) (pda_cons (pd_tup (pda_cons pd_str (pda_cons (pd_isE T CE hz hfl (pd_var 7) (pd_cls (by rfl) X_NoWalkers.g)) pda_nil))) pda_nil))))
        (psd_cons (psd_set (i := 8) sc__law_refused.nd rfl (Or.inl rfl) (pd_add (pd_var 8) (pd_lst (pda_cons (pd_tup (pda_cons pd_str (pda_cons (pd_isE T CE hz hfl (pd_var 7) (pd_cls (by rfl) X_NoName.g)) pda_nil))) pda_nil))))
        (psd_cons (psd_set (i := 8) sc__law_refused.nd rfl (Or.inl rfl) (pd_add (pd_var 8) (pd_lst (pda_cons (pd_tup (pda_cons pd_str (pda_cons (pd_isE T CE hz hfl (pd_var 7) (pd_cls (by rfl) X_NoLanding.g)) pda_nil))) (pda_cons (pd_tup (pda_cons pd_str (pda_cons (pd_isE T CE hz hfl (pd_var 7) (pd_cls (by rfl) X_NoTick.g)) pda_nil))) pda_nil)))))
        (psd_cons (psd_set (i := 8) sc__law_refused.nd rfl (Or.inl rfl) (pd_add (pd_var 8) (pd_lst (pda_cons (pd_tup (pda_cons pd_str (pda_cons (pd_isE T CE hz hfl (pd_var 7) (pd_cls (by rfl) X_NoNumber.g)) pda_nil))) (pda_cons (pd_tup (pda_cons pd_str (pda_cons (pd_isE T CE hz hfl (pd_var 7) (pd_cls (by rfl) X_NoFraction.g)) pda_nil))) pda_nil)))))
        (psd_one (psd_set (i := 6) sc__law_refused.nd rfl (Or.inl rfl) (pd_add (pd_lcH (own := [("word", 9), ("there", 10)]) (g := (dgTup (dgCons (dgName 9) (dgCons (dgName 10) dgNil)))) List.mem_cons_self (hot1_of hz hfl) sc__law_refused.nd (pd_var 8) (blkOk_by (N := ["call", "one", "two", "three", "four", "five", "kin", "e", "words", "word", "there"]) (sc := defScope s__law_refused) (by decide +kernel)) (fun _ _ _ _ _ hot => (pdg_tupH hot (pdgs_cons (pdg_name (i := 9) sc__law_refused.nd rfl (Or.inl rfl)) (pdgs_cons (pdg_name (i := 10) sc__law_refused.nd rfl (Or.inl rfl)) pdgs_nil)) (lg_cons rch_name (lg_cons rch_name lg_nil)))) (fun _ _ _ _ _ => (ptd_one (pdt_val (pd_var 10)))) (fun _ _ _ _ _ => (pd_var 9))) (pd_lst (pda_cons (pd_isE T CE hz hfl (pd_var 7) (pd_ty (by rfl) T.ValueError bo_ValueError)) pda_nil)))))))))))
        (psd_one (psd_retV 6)))), ?_⟩)
  obtain ⟨L, j, n, C, d1, d2, d3, d4, d5, rfl, hL, hj, hc⟩ := c
  refine at_st (S' := [some (.fn L), some (.py d1), some (.py d2), some (.py d3), some (.py d4), some (.py d5), none, none, none, none, none]) rfl ?_
  walk_at "dl"
  refine ⟨L, j, n, C, _, rfl, hL, hj, hc, ?_⟩
  rintro cls fs (⟨rfl, x, hx, rfl, hp⟩ | ⟨rfl, rfl, hp⟩)
  rotate_left
  · refine .inr ⟨by simp, _, rfl, R.mc, R.mf, R.mt, fun a dd => ?_⟩
    exact ⟨_, by rw [List.lookup_cons, beq_self_eq_true], _, R.mn, _, R.mv, hp⟩
  refine .inl ⟨rfl, _, rfl, R.c x hx, R.t x hx, R.l x hx, fun a => ?_⟩
  refine ⟨_, R.i x hx _ (by decide), _, R.i x hx _ (by decide), ?_⟩
  refine ⟨_, R.i x hx _ (by decide), _, R.i x hx _ (by decide), _, R.i x hx _ (by decide), by show 3 ≤ 15999998; decide, _, R.i x hx _ (by decide), _, R.i x hx _ (by decide), by show 5 ≤ 15999998; decide, ?_⟩
  refine ⟨fun i acc => acc = (((asksOf x).take i).filter (·.2)).map (fun p => PyData.str p.1), rfl, ?_, ?_⟩
  · rintro i d acc hi rfl
    obtain ⟨p, hp, rfl⟩ := map_get (show ((asksOf x).map pairP)[i]? = some d from hi)
    have hi7 : i < 7 := (List.getElem?_eq_some_iff.mp hp).1
    have hlen : ((((asksOf x).take i).filter (·.2)).map (fun p => PyData.str p.1)).length ≤ 7 := by
      rw [List.length_map]
      refine Nat.le_trans (List.length_filter_le ..) ?_
      rw [List.length_take]; omega
    obtain ⟨y, b⟩ := p
    have more : (((asksOf x).take (i + 1)).filter (·.2)).map (fun p => PyData.str p.1) = (((asksOf x).take i).filter (·.2)).map (fun p => PyData.str p.1) ++ (if b = true then [PyData.str y] else []) := by
      rw [take_more hp, List.filter_append, List.map_append]
      cases b <;> rfl
    show if b = true then _ else _
    cases b with
    | true => rw [if_pos rfl]; exact ⟨by omega, by show _ = _; rw [more]; rfl⟩
    | false => rw [if_neg Bool.false_ne_true]; show _ = _; rw [more]; exact (List.append_nil _).symm
  rintro acc rfl
  refine ⟨_, R.v x hx, ?_⟩
  have all_ : (((asksOf x).take 7).filter (·.2)).map (fun p => PyData.str p.1) = [PyData.str x] := by
    rw [List.take_of_length_le (by show 7 ≤ 7; decide)]; exact asks_end x hx
  show (((((asksOf x).take 7).filter (·.2)).map (fun p => PyData.str p.1)).length ≤ 15999999) ∧ post (.py (.list ((((asksOf x).take 7).filter (·.2)).map (fun p => PyData.str p.1) ++ [PyData.bool true])))
  rw [all_]
  exact ⟨by show 1 ≤ 15999999; decide, hp⟩
end
/-! ### a call's kin -/
theorem EndsX.ofErr {K : Kf} {x : Str} {post : D → Prop} {px : XP} (hx : x ≠ "TooMany") (h : px (.ref (He.ga K x)) []) : EndsX K (some x) post px := by
  show (if x = "TooMany" then px (.ref (He.ga K "TooMany")) [("most", .int 200)] else px (.ref (He.ga K x)) [])
  rw [if_neg hx]; exact h
theorem EndsX.ofMany {K : Kf} {post : D → Prop} {px : XP} (h : px (.ref (He.ga K "TooMany")) [("most", .int 200)]) : EndsX K (some "TooMany") post px := by
  show (if ("TooMany" : Str) = "TooMany" then px (.ref (He.ga K "TooMany")) [("most", .int 200)] else px (.ref (He.ga K "TooMany")) [])
  rw [if_pos rfl]; exact h
theorem tells_names {word : Str} {q1 q2 q3 q4 : PyData} {x : Str} (h : TellsW word q1 q2 q3 q4 (some x)) : x = "TooMany" ∨ (x ≠ "TooMany" ∧ x ∈ errNames) := by
  have lb : ∀ {word : Str} {q : PyData} {x : Str}, lastBad word q x → x ∈ errNames := fun {word q x} h => by
    rcases h with ⟨_, _, rfl⟩ | ⟨_, _, rfl⟩ | ⟨_, _, rfl⟩ | ⟨_, _, rfl⟩ <;> decide +kernel
  have fx : ∀ y ∈ errNames, y ≠ "TooMany" := by decide +kernel
  have put : ∀ y ∈ errNames, some x = some y → x = "TooMany" ∨ (x ≠ "TooMany" ∧ x ∈ errNames) := fun y hy e => by cases e; exact .inr ⟨fx _ hy, hy⟩
  rcases h with ⟨_, h⟩ | ⟨_, h⟩
  · rcases h with ⟨_, e⟩ | ⟨_, _, _, _, _, ⟨_, e⟩ | ⟨_, _, _, ⟨_, e⟩ | ⟨_, _, _, _, ⟨y, _, hb, e⟩ | ⟨_, e⟩⟩⟩⟩
    · exact put _ (by decide +kernel) e
    · exact put _ (by decide +kernel) e
    · exact put _ (by decide +kernel) e
    · exact put y (lb hb) e
    · cases e
  · rcases h with ⟨_, e⟩ | ⟨_, _, _, _, _, ⟨_, e⟩ | ⟨_, _, _, ⟨_, e⟩ | ⟨_, _, _, _, e⟩ | ⟨_, _, _, _, e⟩⟩⟩
    · exact put _ (by decide +kernel) e
    · exact put _ (by decide +kernel) e
    · exact put _ (by decide +kernel) e
    · cases e; exact .inl rfl
    · cases e
def C_kin (T0 : Addr) : Ct := fun B ds post => ∃ (bs : List Addr) (word : Str) (q1 q2 q3 q4 : PyData) (r : Option Str), B = T0 :: bs ∧ ds = [.py (.str word), .py q1, .py q2, .py q3, .py q4] ∧ TellsW word q1 q2 q3 q4 r ∧ post (.py (.list (kinL r)))
section
variable {P : Program} {w : World} {K : Kf} {mg : Str → Option Value} {base : Heap}
theorem lam_good (x_law_asked : CalX P w K mg base "_law_asked" ["word", "stair", "walkers", "landing", "last"] 9 (C_asked K)) : LamCal P w K mg base lamL 10 5 (C_asked K) :=
  lam_cal (N := ["a", "b", "c", "d", "e"]) (ps := ["a", "b", "c", "d", "e"]) (k := 9) ⟨rfl, rfl, rfl, by decide +kernel, rfl, by decide +kernel, by decide +kernel⟩ (fun B ds post px ⟨_, _, _, _, _, _, e, _⟩ => by subst e; exact ⟨rfl, fun d hd => by simp at hd; rcases hd with rfl | rfl | rfl | rfl | rfl <;> exact free_py⟩)
    (fun pm c' ctv us hl => match us, hl with | [_, _, _, _, _], _ => rfl)
    (fun f c' A outer s H E B G ds post px hr tk ⟨word, q1, q2, q3, q4, r, e, hc⟩ => ⟨_, (pdx_cal x_law_asked tk hr (pda_cons (pd_var 0) (pda_cons (pd_var 1) (pda_cons (pd_var 2) (pda_cons (pd_var 3) (pda_cons (pd_var 4) pda_nil)))))), by
      subst e
      exact ⟨word, q1, q2, q3, q4, r, rfl, hc⟩⟩)
theorem cal_kin_of {f c T0 : Addr} {fd : FuncData} (hm : mg "_law_kin_of" = some (.ref f)) (F : FunD K "_law_kin_of" "_law_kin_of" (defArgs s__law_kin_of) (defBody s__law_kin_of) (defScope s__law_kin_of) [] [] f fd) (hcode : ∀ oc od fd' osl, K.lookup f = some ⟨oc, od, .func fd', osl⟩ → fd'.code = .ref c) (TB : LamX.TabB base mg c T0) (T : Bl mg)
    (x_law_asked : CalX P w K mg base "_law_asked" ["word", "stair", "walkers", "landing", "last"] 9 (C_asked K)) (c_law_refused : Cal P w K mg base "_law_refused" ["call", "one", "two", "three", "four", "five"] 11 (C_refused P w K mg base 10)) : Cal P w K mg base "_law_kin_of" ["word", "stair", "walkers", "landing", "last"] 12 (C_kin T0) := by
  have LC := lam_good x_law_asked
  refine calDc hm F hcode sc__law_kin_of (fun B ds post ⟨_, _, _, _, _, _, _, _, e, _⟩ => by subst e; exact ⟨rfl, fun d hd => by simp at hd; rcases hd with rfl | rfl | rfl | rfl | rfl <;> exact free_py⟩) (fun _ _ _ _ _ _ _ us hl => match us, hl with | [_, _, _, _, _], _ => rfl) (fun f A outer s H E B ds post hr c => ?_)
  obtain ⟨bs, word, q1, q2, q3, q4, r, rfl, rfl, t, hp⟩ := c
  refine ⟨_, (psd_one (psd_ret (pd_cal c_law_refused hr (pda_cons (pd_lamE (L := lamL) (pos := lamPos) TB (by rfl) (by exact qlam_eq) lam_q (lam_def _) lam_free (by kernel_rfl)) (pda_cons (pd_var 0) (pda_cons (pd_var 1) (pda_cons (pd_var 2) (pda_cons (pd_var 3) (pda_cons (pd_var 4) pda_nil))))))))), ?_⟩
  refine at_st (S' := [some (.py (.str word)), some (.py q1), some (.py q2), some (.py q3), some (.py q4)]) rfl ?_
  walk_at "dl"
  refine ⟨lamL, 10, 5, C_asked K, _, _, _, _, _, rfl, LC, by decide, word, q1, q2, q3, q4, r, rfl, t, ?_⟩
  cases r with
  | none => exact fun _ _ => hp
  | some x =>
    rcases tells_names t with rfl | ⟨hne, hx⟩
    · refine EndsX.ofMany (.inr ⟨rfl, rfl, ?_⟩)
      have hp : post (.py (.list (if ("TooMany" : Str) = "TooMany" then [.str "TooMany", .int 200, .bool false, .bool true] else [.str "TooMany", .bool true]))) := hp
      rw [if_pos rfl] at hp; exact hp
    · have hp : post (.py (.list (if x = "TooMany" then [.str "TooMany", .int 200, .bool false, .bool true] else [.str x, .bool true]))) := hp
      rw [if_neg hne] at hp
      exact EndsX.ofErr hne (.inl ⟨rfl, x, hx, rfl, hp⟩)
end
/-! ### bounds refused -/
theorem tells_bad {day : Int} {lamps : List Int} {ws : List Walker} {landing : Int} {word x : Str} {q : PyData} (ok : OkAsk day lamps ws landing) (h : lastBad word q x) (hw : word ∈ (["come", "press", "many", "round", "shares", "lot", "keeps", "is lot", "burning"] : List Str) := by decide +kernel) (hx : x ≠ "TooMany" := by decide +kernel) : TellsW word (stairPy day lamps) (walkersPy ws) (.int landing) q (some x) :=
  .inl ⟨hw, .inr ⟨day, lamps, rfl, ok.s, ok.w.ok, .inr ⟨ws, rfl, ok.w, .inr ⟨landing, rfl, ok.l0, ok.l1, .inl ⟨x, hx, h, rfl⟩⟩⟩⟩⟩
theorem tells_good {day : Int} {lamps : List Int} {ws : List Walker} {landing : Int} {word : Str} {q : PyData} (ok : OkAsk day lamps ws landing) (h : lastGood word q) (hw : word ∈ (["come", "press", "many", "round", "shares", "lot", "keeps", "is lot", "burning"] : List Str) := by decide +kernel) : TellsW word (stairPy day lamps) (walkersPy ws) (.int landing) q none :=
  .inl ⟨hw, .inr ⟨day, lamps, rfl, ok.s, ok.w.ok, .inr ⟨ws, rfl, ok.w, .inr ⟨landing, rfl, ok.l0, ok.l1, .inr ⟨h, rfl⟩⟩⟩⟩⟩
theorem kin_is {r : Option Str} {l : List PyData} {A B : Prop} (e : kinL r = l) (hs : SeqAt.shaped (.list l) = true) (he : PyData.eqv (.list l) (.list l) = true) (hB : B) :
    SeqAt.shaped (.list (kinL r)) = true ∧ SeqAt.shaped (.list l) = true ∧ (if (!PyData.eqv (.list (kinL r)) (.list l)) = true then A else B) := by
  rw [e]
  exact ⟨hs, hs, by rw [he]; exact hB⟩
theorem kin_err {x : Str} {A B : Prop} (hB : B) (hx : x ≠ "TooMany" := by decide +kernel) (hs : SeqAt.shaped (.list [.str x, .bool true]) = true := by decide +kernel) (he : PyData.eqv (.list [.str x, .bool true]) (.list [.str x, .bool true]) = true := by decide +kernel) :
    SeqAt.shaped (.list (kinL (some x))) = true ∧ SeqAt.shaped (.list [.str x, .bool true]) = true ∧ (if (!PyData.eqv (.list (kinL (some x))) (.list [.str x, .bool true])) = true then A else B) := kin_is (if_neg hx) hs he hB
theorem kin_eq {x : Str} {post : D → Prop} (hB : post (.py (.bool true))) (hx : x ≠ "TooMany" := by decide +kernel) (hs : SeqAt.shaped (.list [.str x, .bool true]) = true := by decide +kernel) (he : PyData.eqv (.list [.str x, .bool true]) (.list [.str x, .bool true]) = true := by decide +kernel) :
    SeqAt.shaped (.list (kinL (some x))) = true ∧ SeqAt.shaped (.list [.str x, .bool true]) = true ∧ post (.py (.bool (PyData.eqv (.list (kinL (some x))) (.list [.str x, .bool true])))) := by
  have e : kinL (some x) = [.str x, .bool true] := if_neg hx
  rw [e, he]
  exact ⟨hs, hs, hB⟩
def C_bounds (T0 : Addr) : Ct := fun B ds post => ∃ (bs : List Addr) (day : Int) (lamps : List Int) (ws : List Walker) (landing : Int), B = T0 :: bs ∧ ds = [.py (stairPy day lamps), .py (walkersPy ws), .py (.int landing)] ∧ OkAsk day lamps ws landing ∧ post (.py (.bool true))
abbrev s__law_bounds_refused : Stmt := top 59
theorem sc__law_bounds_refused : FnScope ["stair", "walkers", "landing", "word", "fraction"] ["stair", "walkers", "landing"] (defScope s__law_bounds_refused) := ⟨rfl, rfl, rfl, by decide +kernel, rfl, by decide +kernel, by decide +kernel⟩
section
variable {P : Program} {w : World} {K : Kf} {mg : Str → Option Value} {base : Heap} {T0 : Addr}
theorem cal_bounds (d : Def K mg "_law_bounds_refused" s__law_bounds_refused) (T : Bl mg) (c_law_kin_of : Cal P w K mg base "_law_kin_of" ["word", "stair", "walkers", "landing", "last"] 12 (C_kin T0)) : Cal P w K mg base "_law_bounds_refused" ["stair", "walkers", "landing"] 13 (C_bounds T0) := by
  refine calD d sc__law_bounds_refused (fun B ds post ⟨_, _, _, _, _, _, e, _⟩ => by subst e; exact ⟨rfl, fun d hd => by simp at hd; rcases hd with rfl | rfl | rfl <;> exact free_py⟩) (fun _ _ _ _ _ _ _ us hl => match us, hl with | [_, _, _], _ => rfl) (fun f cdv A outer s H E B ds post hr c => ⟨_, (psd_cons (psd_for PassesOwn.never rfl (pdi_tup (pd_tup (pda_cons pd_str (pda_cons pd_str (pda_cons pd_str pda_nil))))) (pdg_name (i := 3) sc__law_bounds_refused.nd rfl (Or.inl rfl)) (psd_one (psd_if (pdt_cmp (op_neA hr.units) od_ne (pd_cal c_law_kin_of hr (pda_cons (pd_var 3) (pda_cons (pd_var 0) (pda_cons (pd_var 1) (pda_cons (pd_var 2) (pda_cons pd_int pda_nil)))))) (pd_lst (pda_cons pd_str (pda_cons pd_bl pda_nil))) (nomark _)) (psd_one (psd_ret pd_bl)) psd_nil)))
        (psd_cons (psd_for PassesOwn.never rfl (pdi_tup (pd_tup (pda_cons (pd_tup (pda_cons pd_int (pda_cons pd_int pda_nil))) (pda_cons (pd_tup (pda_cons pd_int (pda_cons pd_int pda_nil))) (pda_cons (pd_tup (pda_cons pd_int (pda_cons pd_int pda_nil))) (pda_cons (pd_tup (pda_cons pd_int (pda_cons pd_int pda_nil))) (pda_cons (pd_tup (pda_cons pd_int (pda_cons pd_int pda_nil))) (pda_cons (pd_tup (pda_cons pd_bl (pda_cons pd_int pda_nil))) (pda_cons (pd_lst (pda_cons pd_int (pda_cons pd_int pda_nil))) (pda_cons (pd_tup (pda_cons pd_int pda_nil)) pda_nil)))))))))) (pdg_name (i := 4) sc__law_bounds_refused.nd rfl (Or.inl rfl)) (psd_one (psd_if (pdt_cmp (op_neA hr.units) od_ne (pd_cal c_law_kin_of hr (pda_cons pd_str (pda_cons (pd_var 0) (pda_cons (pd_var 1) (pda_cons (pd_var 2) (pda_cons (pd_var 4) pda_nil)))))) (pd_lst (pda_cons pd_str (pda_cons pd_bl pda_nil))) (nomark _)) (psd_one (psd_ret pd_bl)) psd_nil)))
        (psd_one (psd_ret (pd_cmp (op_eqA hr.units) od_eq (pd_cal c_law_kin_of hr (pda_cons pd_str (pda_cons (pd_var 0) (pda_cons (pd_var 1) (pda_cons (pd_var 2) (pda_cons pd_int pda_nil)))))) (pd_lst (pda_cons pd_str (pda_cons pd_bl pda_nil))) (nomark _)))))), ?_⟩)
  obtain ⟨bs, day, lamps, ws, landing, rfl, rfl, ok, hp⟩ := c
  refine at_st (S' := [some (.py (stairPy day lamps)), some (.py (walkersPy ws)), some (.py (.int landing)), none, none]) rfl ?_
  walk_at "dl"
  refine ⟨fun _ S' => ∃ x3 x4 : Option D, S' = [some (.py (stairPy day lamps)), some (.py (walkersPy ws)), some (.py (.int landing)), x3, x4], ⟨_, _, rfl⟩, ?_, ?_⟩
  · rintro i d S' hi ⟨x3, x4, rfl⟩
    walk_at "dl"
    have go : ∀ word : Str, (word = "lot" ∨ word = "keeps" ∨ word = "is lot") → d = .str word → TellsW word (stairPy day lamps) (walkersPy ws) (.int landing) (.int 2001) (some "NoTick") := fun word hw _ =>
      tells_bad ok (.inr (.inr (.inl ⟨hw, by decide, rfl⟩))) (by rcases hw with rfl | rfl | rfl <;> decide +kernel)
    have dw : ∃ word : Str, d = .str word ∧ (word = "lot" ∨ word = "keeps" ∨ word = "is lot") := by
      match i, hi with
      | 0, hi => cases hi; exact ⟨_, rfl, .inl rfl⟩
      | 1, hi => cases hi; exact ⟨_, rfl, .inr (.inl rfl)⟩
      | 2, hi => cases hi; exact ⟨_, rfl, .inr (.inr rfl)⟩
      | i + 3, hi => cases hi
    obtain ⟨word, rfl, hw⟩ := dw
    exact ⟨bs, word, _, _, _, _, _, rfl, rfl, go word hw rfl, kin_err ⟨_, _, rfl⟩⟩
  rintro S' ⟨x3, x4, rfl⟩
  refine ⟨fun _ S' => ∃ x3 x4 : Option D, S' = [some (.py (stairPy day lamps)), some (.py (walkersPy ws)), some (.py (.int landing)), x3, x4], ⟨_, _, rfl⟩, ?_, ?_⟩
  · rintro i d S' hi ⟨x3, x4, rfl⟩
    walk_at "dl"
    have db : badF d := by
      match i, hi with
      | 0, hi => cases hi; exact .inr ⟨2, 4, rfl, by decide, by decide, by decide, by decide, by decide⟩
      | 1, hi => cases hi; exact .inl (by decide)
      | 2, hi => cases hi; exact .inl (by decide)
      | 3, hi => cases hi; exact .inl (by decide)
      | 4, hi => cases hi; exact .inl (by decide)
      | 5, hi => cases hi; exact .inl (by decide)
      | 6, hi => cases hi; exact .inl (by decide)
      | 7, hi => cases hi; exact .inl (by decide)
      | i + 8, hi => cases hi
    exact ⟨bs, "burning", _, _, _, _, some "NoFraction", rfl, rfl, tells_bad ok (.inr (.inr (.inr ⟨rfl, db, rfl⟩))), kin_err ⟨_, _, rfl⟩⟩
  rintro S' ⟨x3, x4, rfl⟩
  walk_at "dl"
  exact ⟨bs, "press", _, _, _, _, some "NoNumber", rfl, rfl, tells_bad ok (.inr (.inl ⟨rfl, by decide, rfl⟩)), kin_eq hp⟩
end
/-! ### best_begin's own refusals -/
def C_bestref (T0 : Addr) : Ct := fun B ds post => ∃ (bs : List Addr) (day : Int) (lamps : List Int) (ws : List Walker) (q b : PyData), B = T0 :: bs ∧ ds = [.py (stairPy day lamps), .py (walkersPy ws), .py q, .py b] ∧ OkStair day lamps ∧ OkWs day ws ∧ OkStair 201 lamps ∧ OkWs 201 ws ∧ stairB q = false ∧ wsOk b ∧ walkersB 201 b = false ∧
  (∃ u ∈ ws, u.nm = "ann") ∧ (∀ u ∈ ws, u.nm ≠ "zed") ∧ post (.py (.bool true))
theorem many_is {A B : Prop} (hB : B) : SeqAt.shaped (.list (kinL (some "TooMany"))) = true ∧ SeqAt.shaped (.list [.str "TooMany", .int 200, .bool false, .bool true]) = true ∧ (if (!PyData.eqv (.list (kinL (some "TooMany"))) (.list [.str "TooMany", .int 200, .bool false, .bool true])) = true then A else B) :=
  kin_is (by
    show (if ("TooMany" : Str) = "TooMany" then [PyData.str "TooMany", .int 200, .bool false, .bool true] else [PyData.str "TooMany", .bool true]) = _
    rw [if_pos rfl]) (by decide +kernel) (by decide +kernel) hB
theorem none_is {A B : Prop} (hB : B) : SeqAt.shaped (.list (kinL none)) = true ∧ SeqAt.shaped (.list []) = true ∧ (if (!PyData.eqv (.list (kinL none)) (.list [])) = true then A else B) :=
  kin_is rfl (by decide +kernel) (by decide +kernel) hB
theorem ann_ok : OkStair 3 [2] ∧ OkWs 3 [annW] := by
  refine ⟨⟨by decide, by decide, by decide, by decide, by decide⟩, ⟨by decide, by decide, fun w hw => ?_, rfl⟩⟩
  obtain rfl := List.mem_singleton.mp hw
  exact ⟨by decide +kernel, by decide, by decide, by decide, by decide⟩
abbrev s__law_best_refused : Stmt := top 60
theorem sc__law_best_refused : FnScope ["stair", "walkers", "none", "bad", "wide", "dues", "house", "folk", "name", "due"] ["stair", "walkers", "none", "bad"] (defScope s__law_best_refused) := ⟨rfl, rfl, rfl, by decide +kernel, rfl, by decide +kernel, by decide +kernel⟩
section
variable {P : Program} {w : World} {K : Kf} {mg : Str → Option Value} {base : Heap} {T0 : Addr}
theorem cal_best_refused (d : Def K mg "_law_best_refused" s__law_best_refused) (T : Bl mg) (c_law_kin_of : Cal P w K mg base "_law_kin_of" ["word", "stair", "walkers", "landing", "last"] 12 (C_kin T0)) : Cal P w K mg base "_law_best_refused" ["stair", "walkers", "none", "bad"] 13 (C_bestref T0) := by
  refine calD d sc__law_best_refused (fun B ds post ⟨_, _, _, _, _, _, _, e, _⟩ => by subst e; exact ⟨rfl, fun d hd => by simp at hd; rcases hd with rfl | rfl | rfl | rfl <;> exact free_py⟩) (fun _ _ _ _ _ _ _ us hl => match us, hl with | [_, _, _, _], _ => rfl) (fun f cdv A outer s H E B ds post hr c => ⟨_, (psd_cons (psd_set (i := 4) sc__law_best_refused.nd rfl (Or.inl rfl) (pd_tup (pda_cons pd_int (pda_cons (pd_ix (pd_var 0) pd_int) pda_nil))))
        (psd_cons (psd_set (i := 5) sc__law_best_refused.nd rfl (Or.inl rfl) (pd_lst (pda_cons (pd_tup (pda_cons (pd_var 2) (pda_cons (pd_var 3) (pda_cons pd_str (pda_cons pd_str pda_nil))))) (pda_cons (pd_tup (pda_cons (pd_var 4) (pda_cons (pd_var 3) (pda_cons pd_str (pda_cons pd_str pda_nil))))) (pda_cons (pd_tup (pda_cons (pd_var 4) (pda_cons (pd_var 1) (pda_cons pd_str (pda_cons pd_str pda_nil))))) pda_nil)))))
        (psd_cons (psd_for PassesOwn.never rfl (pdi_list (pd_var 5)) (pdg_tup rfl (pdgs_cons (pdg_name (i := 6) sc__law_best_refused.nd rfl (Or.inl rfl)) (pdgs_cons (pdg_name (i := 7) sc__law_best_refused.nd rfl (Or.inl rfl)) (pdgs_cons (pdg_name (i := 8) sc__law_best_refused.nd rfl (Or.inl rfl)) (pdgs_cons (pdg_name (i := 9) sc__law_best_refused.nd rfl (Or.inl rfl)) pdgs_nil)))) (lg_cons rch_name (lg_cons rch_name (lg_cons rch_name (lg_cons rch_name lg_nil))))) (psd_one (psd_if (pdt_cmp (op_neA hr.units) od_ne (pd_cal c_law_kin_of hr (pda_cons pd_str (pda_cons (pd_var 6) (pda_cons (pd_var 7) (pda_cons (pd_var 8) (pda_cons pd_int pda_nil)))))) (pd_lst (pda_cons (pd_var 9) (pda_cons pd_bl pda_nil))) (nomark _)) (psd_one (psd_ret pd_bl)) psd_nil)))
        (psd_cons (psd_if (pdt_cmp (op_neA hr.units) od_ne (pd_cal c_law_kin_of hr (pda_cons pd_str (pda_cons (pd_var 4) (pda_cons (pd_var 1) (pda_cons pd_str (pda_cons pd_int pda_nil)))))) (pd_lst (pda_cons pd_str (pda_cons pd_int (pda_cons pd_bl (pda_cons pd_bl pda_nil))))) (nomark _)) (psd_one (psd_ret pd_bl)) psd_nil)
        (psd_cons (psd_if (pdt_cmp (op_neA hr.units) od_ne (pd_cal c_law_kin_of hr (pda_cons pd_str (pda_cons (pd_tup (pda_cons pd_int (pda_cons (pd_tup (pda_cons pd_int pda_nil)) pda_nil))) (pda_cons (pd_tup (pda_cons (pd_tup (pda_cons pd_str (pda_cons pd_int (pda_cons pd_int (pda_cons pd_str pda_nil))))) pda_nil)) (pda_cons pd_str (pda_cons pd_int pda_nil)))))) (pd_lst pda_nil) (nomark _)) (psd_one (psd_ret pd_bl)) psd_nil)
        (psd_one (psd_ret (pd_cmp (op_eqA hr.units) od_eq (pd_cal c_law_kin_of hr (pda_cons pd_str (pda_cons (pd_var 0) (pda_cons (pd_var 1) (pda_cons pd_non (pda_cons pd_int pda_nil)))))) (pd_lst (pda_cons pd_str (pda_cons pd_bl pda_nil))) (nomark _))))))))), ?_⟩)
  obtain ⟨bs, day, lamps, ws, q, b, rfl, rfl, os, ow, os2, ow2, hq, hb, hb2, ⟨u, hu, hann⟩, hzed, hp⟩ := c
  refine at_st (S' := [some (.py (stairPy day lamps)), some (.py (walkersPy ws)), some (.py q), some (.py b), none, none, none, none, none, none]) rfl ?_
  walk_at "dl"
  refine ⟨fun _ S' => ∃ x6 x7 x8 x9 : Option D, S' = [some (.py (stairPy day lamps)), some (.py (walkersPy ws)), some (.py q), some (.py b), some (.py (stairPy 201 lamps)), some (.py (.list [.tuple [q, b, .str "zed", .str "NoStair"], .tuple [stairPy 201 lamps, b, .str "zed", .str "NoWalkers"], .tuple [stairPy 201 lamps, walkersPy ws, .str "zed", .str "NoName"]])), x6, x7, x8, x9], ⟨_, _, _, _, rfl⟩, ?_, ?_⟩
  · rintro i d S' hi ⟨x6, x7, x8, x9, rfl⟩
    walk_at "dl"
    match i, hi with
    | 0, hi =>
      cases hi
      walk_at "dl"
      exact ⟨bs, "best", _, _, _, _, some "NoStair", rfl, rfl, .inr ⟨rfl, .inl ⟨hq, rfl⟩⟩, kin_err ⟨_, _, _, _, rfl⟩⟩
    | 1, hi =>
      cases hi
      walk_at "dl"
      exact ⟨bs, "best", _, _, _, _, some "NoWalkers", rfl, rfl, .inr ⟨rfl, .inr ⟨201, lamps, rfl, os2, hb, .inl ⟨hb2, rfl⟩⟩⟩, kin_err ⟨_, _, _, _, rfl⟩⟩
    | 2, hi =>
      cases hi
      walk_at "dl"
      exact ⟨bs, "best", _, _, _, _, some "NoName", rfl, rfl, .inr ⟨rfl, .inr ⟨201, lamps, rfl, os2, ow2.ok, .inr ⟨ws, rfl, ow2, .inl ⟨.inr ⟨_, rfl, hzed⟩, rfl⟩⟩⟩⟩, kin_err ⟨_, _, _, _, rfl⟩⟩
    | i + 3, hi => cases hi
  rintro S' ⟨x6, x7, x8, x9, rfl⟩
  walk_at "dl"
  refine ⟨bs, "best", _, _, _, _, some "TooMany", rfl, rfl, .inr ⟨rfl, .inr ⟨201, lamps, rfl, os2, ow2.ok, .inr ⟨ws, rfl, ow2, .inr (.inl ⟨u, hu, by rw [hann], by decide, rfl⟩)⟩⟩⟩, many_is ?_⟩
  refine ⟨bs, "best", _, _, _, _, none, rfl, rfl, .inr ⟨rfl, .inr ⟨3, [2], rfl, ann_ok.1, ann_ok.2.ok, .inr ⟨[annW], rfl, ann_ok.2, .inr (.inr ⟨rfl, rfl, rfl, rfl, rfl⟩)⟩⟩⟩, none_is ?_⟩
  exact ⟨bs, "best", _, _, _, _, some "NoName", rfl, rfl, .inr ⟨rfl, .inr ⟨day, lamps, rfl, os, ow.ok, .inr ⟨ws, rfl, ow, .inl ⟨.inl rfl, rfl⟩⟩⟩⟩, kin_eq hp⟩
end
/-! ### TooMany is made with a number -/
abbrev s_t_init : Stmt := inClass (top 9) 0
theorem sc_t_init : FnScope ["self", "most"] ["self", "most"] (defScope s_t_init) := ⟨rfl, rfl, rfl, by decide +kernel, rfl, by decide +kernel, by decide +kernel⟩
section
variable {P : Program} {w : World} {K : Kf} {mg : Str → Option Value} {base : Heap} {f CL : Addr} {fd : FuncData}
theorem ini_many (F : FunD K "__init__" "TooMany.__init__" (defArgs s_t_init) (defBody s_t_init) (defScope s_t_init) [] [] f fd) (hm : mg "LampError" = some (.ref CL)) (tg : PySem.W.specialIn K (.ref CL) "__getattribute__" = some (some (.builtin "type.__getattribute__")))
    (rd : PySem.W.readsIn K CL (.type "type") = true) (vV : PySem.W.findCls K (.ref CL) (.type "type") "__init__" = some (.val (.builtin "ValueError.__init__"))) :
    FnOk P w K mg base CX0 1 f fd ["self", "most"] (spIni K "most") ∧ Binds K fd ["self", "most"] [] := by
  refine ⟨F.ok sc_t_init (fun vs H Q E h => ?_) (fun cdv A outer s H vs Q E hr h => ?_), FunD.bindsN F fun _ _ _ _ _ _ us hl => match us, hl with | [_, _], _ => rfl⟩
  · obtain ⟨a, C, n, rfl, _⟩ := h; rfl
  · obtain ⟨a, C, n, rfl, T, hno, ea, q⟩ := h
    refine ⟨_, PSs.nox (pss_cons (ps_expr (pe_baseinit (by rfl) hm (by decide) tg rd vV (pa_cons (pv 0) (pa_cons pe_str pa_nil))) rfl) (pss_one (ps_ost (pv 0) (pv 1)))), ?_⟩
    refine ⟨_, rfl, a, C, [.str "too many"], rfl, by decide, T, ea, _, rfl, _, rfl, a, C, rfl, T, hno, .inl ⟨ea, fun dx n1 n2 => q dx n1 n2⟩⟩
end
/-- what the written part says of a class whose __init__ is its own -/
def oexB (K : Kf) (C : Addr) : Bool := match K.lookup C with
  | some ⟨.type "type", _, .cls cd, sl⟩ => (match cd.mro, sl.toList with
    | .ref C' :: bm, [_, _, _, _, some (.builtin n), _] => C' == C && (n == "ValueError.__new__" && (!cd.hasDel && (cd.hasDict && PySem.HandSPX.refsVE bm)))
    | _, _ => false)
  | _ => false
theorem oexB_ok {K : Kf} {C : Addr} (q : oexB K C = true) : ∃ nm q N bs bm sn sub ab col dd k0 k1 k2 k3 k5, K.lookup C = some (excClassObj nm q C N bs bm true sn sub ab col dd k0 k1 k2 k3 k5 "ValueError.__new__") ∧ PySem.HandSPX.refsVE bm = true := by
  unfold oexB at q
  split at q
  · rename_i dd cd sl ho
    split at q
    · rename_i C' bm k0 k1 k2 k3 n k5 hm hs
      simp only [Bool.and_eq_true, beq_iff_eq, Bool.not_eq_true'] at q
      obtain ⟨rfl, rfl, hdel, hd, hr⟩ := q
      obtain ⟨nm, bs, mro, ns, qn, hd', sn, sub, ab, col, del⟩ := cd
      dsimp only at hm hdel hd
      subst hm hdel hd
      have hsl : sl = #[k0, k1, k2, k3, some (.builtin "ValueError.__new__"), k5] := by
        obtain ⟨l⟩ := sl
        simp only at hs
        rw [hs]
      subst hsl
      exact ⟨nm, qn, ns, bs, bm, sn, sub, ab, col, dd, k0, k1, k2, k3, k5, ho, hr⟩
    · cases q
  · cases q
/-! ### the law's picks -/
theorem pick_all {Z : PyData → Prop} {l : List PyData} {r n : Int} (h0 : 0 ≤ r) (h1 : r < n) (e : n = l.length) (h : ∀ d ∈ l, Z d) : ∃ d, atI l r = some d ∧ Z d := by
  obtain ⟨m, rfl⟩ : ∃ m : Nat, r = (m : Int) := ⟨r.toNat, (Int.toNat_of_nonneg h0).symm⟩
  have hn : m < l.length := by omega
  exact ⟨l[m], atI_nat (List.getElem?_eq_getElem hn), h _ (List.getElem_mem hn)⟩
theorem asc_end {ws : List Walker} {u : Walker} (hu : u ∈ ws) : ascB ((ws ++ [u]).map Walker.py) = false := by
  cases e : ascB ((ws ++ [u]).map Walker.py) with
  | false => rfl
  | true =>
    have p := asc_pairwise _ e
    rw [List.pairwise_append] at p
    exact absurd (p.2.2 u hu u (List.mem_singleton.mpr rfl)) (List.lt_irrefl _)
structure BadWs (day : Int) (q : PyData) : Prop where
  ok : wsOk q
  b : walkersB day q = false
  b2 : walkersB 201 q = false
theorem bad_list {day : Int} {l : List PyData} : BadWs day (.list l) := ⟨fun _ e => (by cases e), rfl, rfl⟩
theorem bad_none {day : Int} : BadWs day .none := ⟨fun _ e => (by cases e), rfl, rfl⟩
theorem bad_nil {day : Int} : BadWs day (.tuple []) := ⟨fun l e x hx => (by cases e; cases hx), rfl, rfl⟩
theorem bad_ann {day : Int} (h : day ≤ 201) : BadWs day (.tuple [.tuple [.str "ann", .int 201, .int 0, .str "up"]]) := by
  have key : ∀ day : Int, day ≤ 201 → walkersB day (.tuple [.tuple [.str "ann", .int 201, .int 0, .str "up"]]) = false := fun day h => by
    have e : withinB (.int 201) 0 (day - 1) = false := by
      show (decide ((0 : Int) ≤ 201) && decide ((201 : Int) ≤ day - 1)) = false
      rw [Bool.and_eq_false_iff]; right; rw [decide_eq_false_iff_not]; omega
    show (decide (1 ≤ 1) && decide (1 ≤ 8) && ((nameB (.str "ann") && withinB (.int 201) 0 (day - 1) && withinB (.int 0) 0 1000 && _) && true) && _) = false
    rw [e, Bool.and_false, Bool.false_and, Bool.false_and, Bool.false_and, Bool.and_false, Bool.false_and]
  refine ⟨fun l e x hx a r ex s ea => ?_, key day h, key 201 (by decide)⟩
  cases e
  obtain rfl := List.mem_singleton.mp hx
  cases ex
  cases ea
  decide +kernel
theorem bad_more {day : Int} {ws : List Walker} (ow : OkWs day ws) : BadWs day (.tuple (ws.map Walker.py ++ cutG (ws.map Walker.py) none (some 1))) := by
  obtain ⟨u, r, rfl⟩ : ∃ u r, ws = u :: r := by
    cases ws with
    | nil => exact absurd ow.n1 (by decide)
    | cons u r => exact ⟨u, r, rfl⟩
  have e1 : (u :: r).map Walker.py ++ cutG ((u :: r).map Walker.py) none (some 1) = ((u :: r) ++ [u]).map Walker.py := by
    rw [show (1 : Int) = ((1 : Nat) : Int) from rfl, cut_to, List.map_append]; rfl
  rw [e1]
  have asc := asc_end (ws := u :: r) (u := u) (List.mem_cons_self ..)
  have nb : ∀ d : Int, walkersB d (.tuple (((u :: r) ++ [u]).map Walker.py)) = false := fun d => by
    show (_ && ascB (((u :: r) ++ [u]).map Walker.py)) = false
    rw [asc, Bool.and_false]
  refine ⟨fun l e x hx => ?_, nb day, nb 201⟩
  cases e
  have hx : x ∈ ((u :: r) ++ [u]).map Walker.py := hx
  rw [List.map_append, List.mem_append] at hx
  refine ow.ok ((u :: r).map Walker.py) rfl x ?_
  rcases hx with hx | hx
  · exact hx
  · rw [List.map_singleton, List.mem_singleton] at hx
    subst hx; exact List.mem_cons_self ..
structure WorseQ (q : PyData) : Prop where
  t : withinB q 0 1000000000000000000 = false
  n : withinB q 1 1000000000000000000 = false
  e : withinB q 0 2000 = false
  f : badF q
theorem worse_all : ∀ d ∈ ([.none, .bool true, .int (-1), .int (1000000000000000000 + 1), .str "3", .tuple [.int 0, .int 1]] : List PyData), WorseQ d := by
  intro d hd
  simp only [List.mem_cons, List.mem_nil_iff, or_false] at hd
  rcases hd with rfl | rfl | rfl | rfl | rfl | rfl <;> exact ⟨by decide, by decide, by decide, .inl (by decide)⟩
theorem none_all : ∀ d ∈ ([.none, .tuple [], .tuple [.int 0, .tuple [.int 1]], .list [.int 1, .tuple [.int 1]], .tuple [.int 5, .tuple []], .int 7] : List PyData), stairB d = false := by
  intro d hd
  simp only [List.mem_cons, List.mem_nil_iff, or_false] at hd
  rcases hd with rfl | rfl | rfl | rfl | rfl | rfl <;> decide
theorem odd_all {n : Nat} : ∀ d ∈ ([.none, .bool true, .int (-1), .int n, .str "0"] : List PyData), withinB d 0 (n - 1) = false := by
  intro d hd
  simp only [List.mem_cons, List.mem_nil_iff, or_false] at hd
  rcases hd with rfl | rfl | rfl | rfl | rfl
  · rfl
  · rfl
  · rfl
  · show (decide ((0 : Int) ≤ n) && decide ((n : Int) ≤ n - 1)) = false
    rw [Bool.and_eq_false_iff]; right; rw [decide_eq_false_iff_not]; omega
  · rfl
/-! ### the words, what is due -/
def duesL : List (Str × Str) := [("come", "NoTick"), ("press", "NoNumber"), ("many", "NoTick"), ("round", ""), ("shares", ""), ("lot", "NoTick"), ("keeps", "NoTick"), ("is lot", "NoTick"), ("burning", "NoFraction")]
def kL : List (Key × PyData) := duesL.map fun p => (.inr p.1, .str p.2)
def kG : List (Key × PyData) := [(.inr "press", .int 1000000000000000000), (.inr "many", .int 1000000000000000000), (.inr "burning", .tuple [.int 1000, .int 999]), (.inr "come", .int 1000000000000000000), (.inr "lot", .int 2000)]
structure WordF (word due : Str) : Prop where
  v : valD kL (.inr word) = some (.str due)
  g : ∃ g, (valD kG (.inr word)).getD (.int 9) = g ∧ lastGood word g
  w : word ∈ (["come", "press", "many", "round", "shares", "lot", "keeps", "is lot", "burning"] : List Str)
  d : (due = "" ∧ (word = "round" ∨ word = "shares")) ∨ (due ≠ "" ∧ due ∈ errNames ∧ ∀ q, WorseQ q → lastBad word q due)
theorem word_facts : ∀ p ∈ duesL, WordF p.1 p.2 := by
  intro p hp
  unfold duesL at hp
  simp only [List.mem_cons, List.mem_nil_iff, or_false] at hp
  rcases hp with rfl | rfl | rfl | rfl | rfl | rfl | rfl | rfl | rfl
  · exact ⟨rfl, ⟨_, rfl, .inl ⟨.inl rfl, rfl⟩⟩, by decide +kernel, .inr ⟨by decide +kernel, by decide +kernel, fun q h => .inl ⟨.inl rfl, h.t, rfl⟩⟩⟩
  · exact ⟨rfl, ⟨_, rfl, .inl ⟨.inr (.inr rfl), rfl⟩⟩, by decide +kernel, .inr ⟨by decide +kernel, by decide +kernel, fun q h => .inr (.inl ⟨rfl, h.n, rfl⟩)⟩⟩
  · exact ⟨rfl, ⟨_, rfl, .inl ⟨.inr (.inl rfl), rfl⟩⟩, by decide +kernel, .inr ⟨by decide +kernel, by decide +kernel, fun q h => .inl ⟨.inr rfl, h.t, rfl⟩⟩⟩
  · exact ⟨rfl, ⟨_, rfl, .inr (.inl (.inl rfl))⟩, by decide +kernel, .inl ⟨rfl, .inl rfl⟩⟩
  · exact ⟨rfl, ⟨_, rfl, .inr (.inl (.inr rfl))⟩, by decide +kernel, .inl ⟨rfl, .inr rfl⟩⟩
  · exact ⟨rfl, ⟨_, rfl, .inr (.inr (.inl ⟨rfl, rfl⟩))⟩, by decide +kernel, .inr ⟨by decide +kernel, by decide +kernel, fun q h => .inr (.inr (.inl ⟨.inl rfl, h.e, rfl⟩))⟩⟩
  · exact ⟨rfl, ⟨_, rfl, .inr (.inr (.inr (.inl ⟨.inl rfl, rfl⟩)))⟩, by decide +kernel, .inr ⟨by decide +kernel, by decide +kernel, fun q h => .inr (.inr (.inl ⟨.inr (.inl rfl), h.e, rfl⟩))⟩⟩
  · exact ⟨rfl, ⟨_, rfl, .inr (.inr (.inr (.inl ⟨.inr rfl, rfl⟩)))⟩, by decide +kernel, .inr ⟨by decide +kernel, by decide +kernel, fun q h => .inr (.inr (.inl ⟨.inr (.inr rfl), h.e, rfl⟩))⟩⟩
  · exact ⟨rfl, ⟨_, rfl, .inr (.inr (.inr (.inr ⟨rfl, rfl⟩)))⟩, by decide +kernel, .inr ⟨by decide +kernel, by decide +kernel, fun q h => .inr (.inr (.inr ⟨rfl, h.f, rfl⟩))⟩⟩
theorem law_merge : mergeD (mergeD [] [(.inr "come", .str "NoTick"), (.inr "press", .str "NoNumber"), (.inr "many", .str "NoTick"), (.inr "round", .str ""), (.inr "shares", .str "")]) (mergeD [] [(.inr "lot", .str "NoTick"), (.inr "keeps", .str "NoTick"), (.inr "is lot", .str "NoTick"), (.inr "burning", .str "NoFraction")]) = kL := by rfl
theorem law_merge2 : mergeD [] kG = kG := by rfl
theorem ok201 {day : Int} {ws : List Walker} (h : OkWs day ws) (hd : day ≤ 201) : OkWs 201 ws := ⟨h.n1, h.n2, fun w hw => by
  obtain ⟨a, b, c, d⟩ := h.wk w hw
  exact ⟨a, b, by omega, d⟩, h.asc⟩
theorem law_ann {day many far : Int} {ws : List Walker} (h : LawWs day many far ws) : (∃ u ∈ ws, u.nm = "ann") ∧ ∀ u ∈ ws, u.nm ≠ "zed" := by
  refine ⟨?_, fun u hu => ?_⟩
  · have h1 := h.n1
    have e := (h.wk 0 ws[0] (List.getElem?_eq_getElem (by omega))).1
    have e : some ("ann" : Str) = some ws[0].nm := e
    exact ⟨ws[0], List.getElem_mem (by omega), (Option.some.inj e).symm⟩
  · obtain ⟨i, hi, rfl⟩ := List.getElem_of_mem hu
    have e := (h.wk i _ (List.getElem?_eq_getElem hi)).1
    have key : ∀ x ∈ lawNames, x ≠ "zed" := by decide +kernel
    exact key _ (List.mem_of_getElem? e)
abbrev s_law : Stmt := top 61
theorem sc_law : FnScope ["script", "lasts", "goods", "bag", "stair", "walkers", "landing", "none", "bad", "odd", "worse", "word", "due"] ["script"] (defScope s_law) := ⟨rfl, rfl, rfl, by decide +kernel, rfl, by decide +kernel, by decide +kernel⟩
def bl12 : Slots := [none, some (.lk kL), some (.lk kG), none, none, none, none, none, none, none, none, none, none]
theorem stay12 : stayLk bl12 := fun i d h => by
  match i, h with
  | 0, h => cases h
  | 1, h => cases h; exact ⟨_, rfl⟩
  | 2, h => cases h; exact ⟨_, rfl⟩
  | 3, h => cases h
  | 4, h => cases h
  | 5, h => cases h
  | 6, h => cases h
  | 7, h => cases h
  | 8, h => cases h
  | 9, h => cases h
  | 10, h => cases h
  | 11, h => cases h
  | 12, h => cases h
  | i + 13, h => cases h
theorem keep12 {S : Slots} {x0 x3 x4 x5 x6 x7 x8 x9 x10 x11 x12 : Option D} (e : S = [x0, some (.lk kL), some (.lk kG), x3, x4, x5, x6, x7, x8, x9, x10, x11, x12]) : KeepS bl12 S := by
  subst e
  refine ⟨rfl, fun i d h => ?_⟩
  match i, h with
  | 0, h => cases h
  | 1, h => exact h
  | 2, h => exact h
  | 3, h => cases h
  | 4, h => cases h
  | 5, h => cases h
  | 6, h => cases h
  | 7, h => cases h
  | 8, h => cases h
  | 9, h => cases h
  | 10, h => cases h
  | 11, h => cases h
  | 12, h => cases h
  | i + 13, h => cases h
theorem if_ndec' {c : Bool} {A B : Prop} (h1 : c = true) (h2 : B) : if (!c) = true then A else B := by subst h1; exact h2
theorem getV_py {kvs : List (Key × PyData)} {k : Key} {q g : PyData} {post : D → Prop} (h : (valD kvs k).getD q = g) (p : post (.py g)) : getV kvs k (.py q) post := by
  unfold getV
  cases e : valD kvs k with
  | none => rw [e] at h; exact (show q = g from h) ▸ p
  | some x => rw [e] at h; exact (show x = g from h) ▸ p
section
variable {P : Program} {w : World} {K : Kf} {mg : Str → Option Value} {base : Heap}
theorem law_good {f : Addr} {fd : FuncData} {c T0 : Addr} (F : FunD K "law" "law" (defArgs s_law) (defBody s_law) (defScope s_law) [] [] f fd) (hcode : ∀ oc od fd' osl, K.lookup f = some ⟨oc, od, .func fd', osl⟩ → fd'.code = .ref c) (T : Bl mg) (c_law_bags : CalR P w K mg base "_law_bags" ["script", "limit"] 3 (spBags K))
    (c_law_take : Cal P w K mg base "_law_take" ["bag", "many"] 1 C_take) (c_law_stair : Cal P w K mg base "_law_stair" ["bag", "days", "burnings", "landings"] 3 C_stair) (c_law_walkers : Cal P w K mg base "_law_walkers" ["bag", "stair", "many", "far"] 3 C_walkers)
    (c_law_kin_of : Cal P w K mg base "_law_kin_of" ["word", "stair", "walkers", "landing", "last"] 12 (C_kin T0)) (c_law_bounds_refused : Cal P w K mg base "_law_bounds_refused" ["stair", "walkers", "landing"] 13 (C_bounds T0)) (c_law_best_refused : Cal P w K mg base "_law_best_refused" ["stair", "walkers", "none", "bad"] 13 (C_bestref T0)) : FnOk P w K mg base CX0 14 f fd ["script"] (spLaw K T0) := by
  refine law_ok3 (k := 13) (lim := 6) (i := 3) (c := c) (T := T0) (bl := bl12) F sc_law hcode rfl rfl stay12 (by decide) (by decide) c_law_bags rfl rfl (by first | exact Or.inl rfl | exact Or.inr rfl) (by first | exact Or.inl rfl | exact Or.inr rfl) rfl
    (fun f A outer s H E H0 hr => (psd_disp (i := 1) sc_law.nd rfl (Or.inl rfl) (pdps_cons pd_str (pdps_cons pd_str (pdps_cons pd_str (pdps_cons pd_str (pdps_cons pd_str pdps_nil))))) (by rfl) (by rfl) (by intro z; cases z) (by decide))) (fun f A outer s H E H0 hr => (psd_upd (i := 1) rfl (Or.inl rfl) (by decide) (by decide) (pdps_cons pd_str (pdps_cons pd_str (pdps_cons pd_str (pdps_cons pd_str pdps_nil)))) (by rfl) (by rfl) (by intro z; cases z) (by decide) ⟨by rfl, by rfl, by rfl, by rfl⟩ (by rfl))) (fun f A outer s H E H0 hr => (psd_lkA 2 (psd_lkA 1 (psd_disp (i := 2) sc_law.nd rfl (Or.inl rfl) (pdps_cons (pd_pow (n := 1000000000000000000)) (pdps_cons (pd_pow (n := 1000000000000000000)) (pdps_cons (pd_tup (pda_cons pd_int (pda_cons pd_int pda_nil))) (pdps_cons (pd_pow (n := 1000000000000000000)) (pdps_cons pd_int pdps_nil))))) (by rfl) (by rfl) (by intro z; cases z) (by decide)))))
    (fun f A outer s H E bs H0 hr => (psd_cons (psd_set (i := 4) sc_law.nd rfl (Or.inl rfl) (pd_cal c_law_stair hr (pda_cons (pd_var 3) (pda_cons pd_int (pda_cons pd_int (pda_cons pd_int pda_nil))))))
        (psd_cons (psd_par (i := 5) (j := 6) rfl sc_law.nd rfl rfl (by decide) rfl rfl (pd_cal c_law_walkers hr (pda_cons (pd_var 3) (pda_cons (pd_var 4) (pda_cons pd_int (pda_cons pd_int pda_nil))))) (pd_cal c_law_take hr (pda_cons (pd_var 3) (pda_cons (pd_len T (pd_ix (pd_var 4) pd_int)) pda_nil))) (by rfl))
        (psd_cons (psd_set (i := 7) sc_law.nd rfl (Or.inl rfl) (pd_ix (pd_lst (pda_cons pd_non (pda_cons (pd_tup pda_nil) (pda_cons (pd_tup (pda_cons pd_int (pda_cons (pd_tup (pda_cons pd_int pda_nil)) pda_nil))) (pda_cons (pd_lst (pda_cons pd_int (pda_cons (pd_tup (pda_cons pd_int pda_nil)) pda_nil))) (pda_cons (pd_tup (pda_cons pd_int (pda_cons (pd_tup pda_nil) pda_nil))) (pda_cons pd_int pda_nil))))))) (pd_cal c_law_take hr (pda_cons (pd_var 3) (pda_cons pd_int pda_nil)))))
        (psd_cons (psd_set (i := 8) sc_law.nd rfl (Or.inl rfl) (pd_ix (pd_lst (pda_cons pd_non (pda_cons (pd_tup pda_nil) (pda_cons (pd_listOf T (pd_var 5)) (pda_cons (pd_add (pd_var 5) (pd_slice (pd_var 5) pdo_none (pdo_some pd_int))) (pda_cons (pd_tup (pda_cons (pd_tup (pda_cons pd_str (pda_cons pd_int (pda_cons pd_int (pda_cons pd_str pda_nil))))) pda_nil)) pda_nil)))))) (pd_cal c_law_take hr (pda_cons (pd_var 3) (pda_cons pd_int pda_nil)))))
        (psd_cons (psd_set (i := 9) sc_law.nd rfl (Or.inl rfl) (pd_ix (pd_lst (pda_cons pd_non (pda_cons pd_bl (pda_cons pd_neg (pda_cons (pd_len T (pd_ix (pd_var 4) pd_int)) (pda_cons pd_str pda_nil)))))) (pd_cal c_law_take hr (pda_cons (pd_var 3) (pda_cons pd_int pda_nil)))))
        (psd_cons (psd_set (i := 10) sc_law.nd rfl (Or.inl rfl) (pd_ix (pd_lst (pda_cons pd_non (pda_cons pd_bl (pda_cons pd_neg (pda_cons (pd_add (pd_pow (n := 1000000000000000000)) pd_int) (pda_cons pd_str (pda_cons (pd_tup (pda_cons pd_int (pda_cons pd_int pda_nil))) pda_nil))))))) (pd_cal c_law_take hr (pda_cons (pd_var 3) (pda_cons pd_int pda_nil)))))
        (psd_cons (psd_for PassesOwn.never rfl (pdi_keys (pd_var 1)) (pdg_name (i := 11) sc_law.nd rfl (Or.inl rfl)) (psd_cons (psd_if (pdt_cmp (op_neA hr.units) od_ne (pd_cal c_law_kin_of hr (pda_cons (pd_var 11) (pda_cons (pd_var 7) (pda_cons (pd_var 8) (pda_cons (pd_var 9) (pda_cons (pd_var 10) pda_nil)))))) (pd_lst (pda_cons pd_str (pda_cons pd_bl pda_nil))) (nomark _)) (psd_one (psd_ret pd_bl)) psd_nil)
        (psd_cons (psd_if (pdt_cmp (op_neA hr.units) od_ne (pd_cal c_law_kin_of hr (pda_cons (pd_var 11) (pda_cons (pd_var 4) (pda_cons (pd_var 8) (pda_cons (pd_var 9) (pda_cons (pd_var 10) pda_nil)))))) (pd_lst (pda_cons pd_str (pda_cons pd_bl pda_nil))) (nomark _)) (psd_one (psd_ret pd_bl)) psd_nil)
        (psd_cons (psd_if (pdt_cmp (op_neA hr.units) od_ne (pd_cal c_law_kin_of hr (pda_cons (pd_var 11) (pda_cons (pd_var 4) (pda_cons (pd_var 5) (pda_cons (pd_var 9) (pda_cons (pd_var 10) pda_nil)))))) (pd_lst (pda_cons pd_str (pda_cons pd_bl pda_nil))) (nomark _)) (psd_one (psd_ret pd_bl)) psd_nil)
        (psd_cons (psd_set (i := 12) sc_law.nd rfl (Or.inl rfl) (pd_ifExp (pdt_cmp (op_neA hr.units) od_ne (pd_dix (lt64 hr.units) (pd_var 1) (pd_var 11)) pd_str (nomark _)) (pd_lst (pda_cons (pd_dix (lt64 hr.units) (pd_var 1) (pd_var 11)) (pda_cons pd_bl pda_nil))) (pd_lst pda_nil)))
        (psd_cons (psd_if (pdt_cmp (op_neA hr.units) od_ne (pd_cal c_law_kin_of hr (pda_cons (pd_var 11) (pda_cons (pd_var 4) (pda_cons (pd_var 5) (pda_cons (pd_var 6) (pda_cons (pd_var 10) pda_nil)))))) (pd_var 12) (nomark _)) (psd_one (psd_ret pd_bl)) psd_nil)
        (psd_one (psd_if (pdt_cmp (op_neA hr.units) od_ne (pd_cal c_law_kin_of hr (pda_cons (pd_var 11) (pda_cons (pd_var 4) (pda_cons (pd_var 5) (pda_cons (pd_var 6) (pda_cons (pd_dget (lt64 hr.units) (pd_var 2) (pd_var 11) pd_int ⟨by rfl, by rfl, by rfl, by rfl⟩) pda_nil)))))) (pd_lst pda_nil) (nomark _)) (psd_one (psd_ret pd_bl)) psd_nil))))))))
        (psd_one (psd_if (PDW.t (pdw_or (pdt_not (pdt_val (pd_cal c_law_bounds_refused hr (pda_cons (pd_var 4) (pda_cons (pd_var 5) (pda_cons (pd_var 6) pda_nil)))))) (pdw_or1 (pdt_not (pdt_val (pd_cal c_law_best_refused hr (pda_cons (pd_var 4) (pda_cons (pd_var 5) (pda_cons (pd_var 7) (pda_cons (pd_var 8) pda_nil)))))))))) (psd_one (psd_ret pd_bl)) psd_nil)))))))))) (fun f A outer s H E bs H0 hr => (psd_one (psd_ret pd_bl))) (fun a => ?_) (fun bs b hb => ?_) (fun bs => ?_)
  · refine at_st (S' := [some (.raw (.ref a)), none, none, none, none, none, none, none, none, none, none, none, none]) rfl ?_
    walk_at "dl"
    refine ⟨by decide, by decide +kernel, by decide, ?_⟩
    rw [law_merge, show mergeD [] [(Sum.inr ("press" : Str), PyData.int 1000000000000000000), (Sum.inr ("many" : Str), PyData.int 1000000000000000000), (Sum.inr ("burning" : Str), PyData.tuple [PyData.int 1000, PyData.int 999]), (Sum.inr ("come" : Str), PyData.int 1000000000000000000), (Sum.inr ("lot" : Str), PyData.int 2000)] = kG from law_merge2]
    exact keep12 rfl
  · refine at_st (S' := [none, some (.lk kL), some (.lk kG), some (.raw (.ref b)), none, none, none, none, none, none, none, none, none]) rfl ?_
    refine seq_gen fun R hR => ?_
    walk_at "dl"
    refine ⟨b, _, _, _, rfl, hb, by decide, by decide, by decide, by decide, by decide, by decide, fun day lamps os o1 o2 o3 => ?_⟩
    have hpl : (pInts lamps).length = lamps.length := List.length_map ..
    have hl1 := os.l1; have hl2 := os.l2; have hd1 := os.d1; have hd2 := os.d2
    refine seq_back hR rfl ?_
    refine seq_gen fun R hR => ?_
    walk_at "dl"
    refine ⟨b, day, lamps, _, _, rfl, hb, os.d1, by decide, by decide, by decide, fun ws lw => ⟨b, _, rfl, hb, by omega, fun l l0 l1 _ => ?_⟩⟩
    have ow := lw.ok (by decide) (by decide)
    have hw1 := ow.n1; have hw2 := ow.n2
    have ok : OkAsk day lamps ws l := ⟨os, ow, l0, by omega⟩
    refine seq_back hR rfl ?_
    refine seq_gen fun R hR => ?_
    walk_at "dl"
    refine ⟨b, _, rfl, hb, by decide, fun r1 r10 r11 _ => ?_⟩
    obtain ⟨qn, hqn, hn⟩ := pick_all r10 r11 (by rfl) none_all
    walk_at "dl"
    rw [hqn]
    walk_at "dl"
    refine seq_back hR rfl ?_
    refine seq_gen fun R hR => ?_
    walk_at "dl"
    refine ⟨?_, b, _, rfl, hb, by decide, fun r2 r20 r21 _ => ?_⟩
    · rw [show (1 : Int) = ((1 : Nat) : Int) from rfl, cut_to, List.length_take, List.length_map]; omega
    have bad_all : ∀ d ∈ ([.none, .tuple [], .list (ws.map Walker.py), .tuple (ws.map Walker.py ++ cutG (ws.map Walker.py) none (some 1)), .tuple [.tuple [.str "ann", .int 201, .int 0, .str "up"]]] : List PyData), BadWs day d := by
      intro d hd
      simp only [List.mem_cons, List.mem_nil_iff, or_false] at hd
      rcases hd with rfl | rfl | rfl | rfl | rfl
      · exact bad_none
      · exact bad_nil
      · exact bad_list
      · exact bad_more ow
      · exact bad_ann (by omega)
    obtain ⟨qb, hqb, hbd⟩ := pick_all r20 r21 (by rfl) bad_all
    walk_at "dl"
    rw [hqb]
    walk_at "dl"
    refine seq_back hR rfl ?_
    refine seq_gen fun R hR => ?_
    walk_at "dl"
    refine ⟨b, _, rfl, hb, by decide, fun r3 r30 r31 _ => ?_⟩
    obtain ⟨qo, hqo, ho⟩ := pick_all r30 r31 (by rfl) (odd_all (n := (pInts lamps).length))
    rw [hpl] at ho
    walk_at "dl"
    rw [hqo]
    walk_at "dl"
    refine seq_back hR rfl ?_
    refine seq_gen fun R hR => ?_
    walk_at "dl"
    refine ⟨b, _, rfl, hb, by decide, fun r4 r40 r41 _ => ?_⟩
    obtain ⟨qw, hqw, hw⟩ := pick_all r40 r41 (by rfl) worse_all
    walk_at "dl"
    rw [hqw]
    walk_at "dl"
    refine seq_back hR rfl ?_
    refine seq_gen fun R hR => ?_
    refine for_gen fun Bd hBd => ?_
    walk_at "dl"
    refine ⟨fun _ S' => ∃ x11 x12 : Option D, S' = [none, some (.lk kL), some (.lk kG), some (.raw (.ref b)), some (.py (stairPy day lamps)), some (.py (walkersPy ws)), some (.py (.int l)), some (.py qn), some (.py qb), some (.py qo), some (.py qw), x11, x12], ⟨_, _, rfl⟩, ?_, ?_⟩
    · rintro i d S' hi ⟨x11, x12, rfl⟩
      obtain ⟨⟨word, due⟩, hp, rfl⟩ : ∃ p ∈ duesL, d = .str p.1 := by
        obtain ⟨q, hq, rfl⟩ := map_get hi
        obtain ⟨p, hp, rfl⟩ := map_get (l := duesL) hq
        exact ⟨p, List.mem_of_getElem? hp, rfl⟩
      have wf := word_facts _ hp
      have wv : valD kL (.inr word) = some (.str due) := wf.v
      refine body_back hBd rfl ?_
      refine seq_gen fun R2 hR2 => ?_
      walk_at "dl"
      refine ⟨bs, word, _, _, _, _, some "NoStair", rfl, rfl, .inl ⟨wf.w, .inl ⟨hn, rfl⟩⟩, kin_err ?_⟩
      refine seq_back hR2 rfl ?_
      refine seq_gen fun R2 hR2 => ?_
      walk_at "dl"
      refine ⟨bs, word, _, _, _, _, some "NoWalkers", rfl, rfl, .inl ⟨wf.w, .inr ⟨day, lamps, rfl, os, hbd.ok, .inl ⟨hbd.b, rfl⟩⟩⟩, kin_err ?_⟩
      refine seq_back hR2 rfl ?_
      refine seq_gen fun R2 hR2 => ?_
      walk_at "dl"
      refine ⟨bs, word, _, _, _, _, some "NoLanding", rfl, rfl, .inl ⟨wf.w, .inr ⟨day, lamps, rfl, os, ow.ok, .inr ⟨ws, rfl, ow, .inl ⟨ho, rfl⟩⟩⟩⟩, kin_err ?_⟩
      refine seq_back hR2 rfl ?_
      refine seq_gen fun R2 hR2 => ?_
      walk_at "dl"
      rw [wv]
      walk_at "dl"
      have fin : ∀ (dl : List PyData) (r : Option Str), kinL r = dl → SeqAt.shaped (.list dl) = true → PyData.eqv (.list dl) (.list dl) = true → TellsW word (stairPy day lamps) (walkersPy ws) (.int l) qw r →
          R2 [none, some (.lk kL), some (.lk kG), some (.raw (.ref b)), some (.py (stairPy day lamps)), some (.py (walkersPy ws)), some (.py (.int l)), some (.py qn), some (.py qb), some (.py qo), some (.py qw), some (.py (.str word)), some (.py (.list dl))] := fun dl r e hs he ht => by
        refine seq_back hR2 rfl ?_
        refine seq_gen fun R3 hR3 => ?_
        walk_at "dl"
        refine ⟨bs, word, _, _, _, _, r, rfl, rfl, ht, kin_is e hs he ?_⟩
        refine seq_back hR3 rfl ?_
        walk_at "dl"
        obtain ⟨g, g1, g2⟩ := wf.g
        refine getV_py g1 ?_
        exact ⟨bs, word, _, _, _, _, none, rfl, rfl, tells_good ok g2 wf.w, none_is ⟨_, _, rfl⟩⟩
      rcases wf.d with ⟨hd, hw2⟩ | ⟨hd, he, hb2⟩
      · have hd : due = "" := hd
        refine if_ndec (fun z => absurd hd z) fun _ => ?_
        exact fin [] none rfl (by decide +kernel) (by decide +kernel) (tells_good ok (.inr (.inl hw2)) wf.w)
      · refine if_ndec (fun _ => ?_) fun z => absurd z hd
        have fx : ∀ y ∈ errNames, y ≠ "TooMany" ∧ SeqAt.shaped (.list [.str y, .bool true]) = true ∧ PyData.eqv (.list [.str y, .bool true]) (.list [.str y, .bool true]) = true := by decide +kernel
        obtain ⟨f1, f2, f3⟩ := fx due he
        exact fin _ (some due) (if_neg f1) f2 f3 (tells_bad ok (hb2 qw hw) wf.w f1)
    · rintro S' ⟨x11, x12, rfl⟩
      refine seq_back hR rfl ?_
      walk_at "dl"
      obtain ⟨la1, la2⟩ := law_ann lw
      refine ⟨bs, day, lamps, ws, l, rfl, rfl, ok, ?_⟩
      refine if_ndec' rfl ?_
      refine ⟨bs, day, lamps, ws, qn, qb, rfl, rfl, os, ow, ⟨by decide, by decide, os.l1, os.l2, os.lp⟩, ok201 ow (by omega), hn, hbd.ok, hbd.b2, la1, la2, ?_⟩
      exact if_ndec' rfl (keep12 rfl)
  · unfold bl12
    walk_at "dl"
end
set_option maxHeartbeats 0
def hd_law_take : He.DefD := ⟨("_law_take", none), "_law_take", "_law_take", defArgs s__law_take, defBody s__law_take, defScope s__law_take, [], []⟩
def hd_law_far_draw : He.DefD := ⟨("_law_far_draw", none), "_law_far_draw", "_law_far_draw", defArgs s__law_far_draw, defBody s__law_far_draw, defScope s__law_far_draw, [], []⟩
def hd_law_stair : He.DefD := ⟨("_law_stair", none), "_law_stair", "_law_stair", defArgs s__law_stair, defBody s__law_stair, defScope s__law_stair, [], []⟩
def hd_law_walkers : He.DefD := ⟨("_law_walkers", none), "_law_walkers", "_law_walkers", defArgs s__law_walkers, defBody s__law_walkers, defScope s__law_walkers, [], []⟩
def hd_law_draws : He.DefD := ⟨("_law_draws", none), "_law_draws", "_law_draws", defArgs s__law_draws, defBody s__law_draws, defScope s__law_draws, [], []⟩
def hd_law_cell_at : He.DefD := ⟨("_law_cell_at", none), "_law_cell_at", "_law_cell_at", defArgs s__law_cell_at, defBody s__law_cell_at, defScope s__law_cell_at, [], []⟩
def hd_law_bag : He.DefD := ⟨("_law_bag", none), "_law_bag", "_law_bag", defArgs s__law_bag, defBody s__law_bag, defScope s__law_bag, [], []⟩
def hd_law_bags : He.DefD := ⟨("_law_bags", none), "_law_bags", "_law_bags", defArgs s__law_bags, defBody s__law_bags, defScope s__law_bags, [], []⟩
def hd_is_within : He.DefD := ⟨("is_within", none), "is_within", "is_within", defArgs s_is_within, defBody s_is_within, defScope s_is_within, [], []⟩
def hd_is_name : He.DefD := ⟨("is_name", none), "is_name", "is_name", defArgs s_is_name, defBody s_is_name, defScope s_is_name, [], []⟩
def hd_is_stair : He.DefD := ⟨("is_stair", none), "is_stair", "is_stair", defArgs s_is_stair, defBody s_is_stair, defScope s_is_stair, [], []⟩
def hd_is_walker : He.DefD := ⟨("is_walker", none), "is_walker", "is_walker", defArgs s_is_walker, defBody s_is_walker, defScope s_is_walker, [], []⟩
def hd_are_all_walkers : He.DefD := ⟨("are_all_walkers", none), "are_all_walkers", "are_all_walkers", defArgs s_are_all_walkers, defBody s_are_all_walkers, defScope s_are_all_walkers, [], []⟩
def hd_need_stair : He.DefD := ⟨("need_stair", none), "need_stair", "need_stair", defArgs s_need_stair, defBody s_need_stair, defScope s_need_stair, [], []⟩
def hd_need_house : He.DefD := ⟨("need_house", none), "need_house", "need_house", defArgs s_need_house, defBody s_need_house, defScope s_need_house, [], []⟩
def hd_need_landing : He.DefD := ⟨("need_landing", none), "need_landing", "need_landing", defArgs s_need_landing, defBody s_need_landing, defScope s_need_landing, [], []⟩
def hd_need_tick : He.DefD := ⟨("need_tick", none), "need_tick", "need_tick", defArgs s_need_tick, defBody s_need_tick, defScope s_need_tick, [], []⟩
def hd_firsts : He.DefD := ⟨("firsts", none), "firsts", "firsts", defArgs s_firsts, defBody s_firsts, defScope s_firsts, [], []⟩
def hd_pressing : He.DefD := ⟨("pressing", none), "pressing", "pressing", defArgs s_pressing, defBody s_pressing, defScope s_pressing, [], []⟩
def hd_comes_round : He.DefD := ⟨("comes_round", none), "comes_round", "comes_round", defArgs s_comes_round, defBody s_comes_round, defScope s_comes_round, [], []⟩
def hd_how_many : He.DefD := ⟨("how_many", none), "how_many", "how_many", defArgs s_how_many, defBody s_how_many, defScope s_how_many, [], []⟩
def hd_need_number : He.DefD := ⟨("need_number", none), "need_number", "need_number", defArgs s_need_number, defBody s_need_number, defScope s_need_number, [], []⟩
def hd_press : He.DefD := ⟨("press", none), "press", "press", defArgs s_press, defBody s_press, defScope s_press, [], []⟩
def hd_who_come : He.DefD := ⟨("who_come", none), "who_come", "who_come", defArgs s_who_come, defBody s_who_come, defScope s_who_come, [], []⟩
def hd_come : He.DefD := ⟨("come", none), "come", "come", defArgs s_come, defBody s_come, defScope s_come, [], []⟩
def hd_shares : He.DefD := ⟨("shares", none), "shares", "shares", defArgs s_shares, defBody s_shares, defScope s_shares, [], []⟩
def hd_common : He.DefD := ⟨("common", none), "common", "common", defArgs s_common, defBody s_common, defScope s_common, [], []⟩
def hd_need_fraction : He.DefD := ⟨("need_fraction", none), "need_fraction", "need_fraction", defArgs s_need_fraction, defBody s_need_fraction, defScope s_need_fraction, [], []⟩
def hd_least_burning : He.DefD := ⟨("least_burning", none), "least_burning", "least_burning", defArgs s_least_burning, defBody s_least_burning, defScope s_least_burning, [], []⟩
def hd_by_days : He.DefD := ⟨("by_days", none), "by_days", "by_days", defArgs s_by_days, defBody s_by_days, defScope s_by_days, [], []⟩
def hd_best_begin : He.DefD := ⟨("best_begin", none), "best_begin", "best_begin", defArgs s_best_begin, defBody s_best_begin, defScope s_best_begin, [], []⟩
def hd_need_asked : He.DefD := ⟨("need_asked", none), "need_asked", "need_asked", defArgs s_need_asked, defBody s_need_asked, defScope s_need_asked, [], []⟩
def hd_lot : He.DefD := ⟨("lot", none), "lot", "lot", defArgs s_lot, defBody s_lot, defScope s_lot, [], []⟩
def hd_are_ticks : He.DefD := ⟨("are_ticks", none), "are_ticks", "are_ticks", defArgs s_are_ticks, defBody s_are_ticks, defScope s_are_ticks, [], []⟩
def hd_are_keeping : He.DefD := ⟨("are_keeping", none), "are_keeping", "are_keeping", defArgs s_are_keeping, defBody s_are_keeping, defScope s_are_keeping, [], []⟩
def hd_is_lot : He.DefD := ⟨("is_lot", none), "is_lot", "is_lot", defArgs s_is_lot, defBody s_is_lot, defScope s_is_lot, [], []⟩
def hd_law_refused : He.DefD := ⟨("_law_refused", none), "_law_refused", "_law_refused", defArgs s__law_refused, defBody s__law_refused, defScope s__law_refused, [], []⟩
def hd_law_asked : He.DefD := ⟨("_law_asked", none), "_law_asked", "_law_asked", defArgs s__law_asked, defBody s__law_asked, defScope s__law_asked, [], []⟩
def hd_law_kin_of : He.DefD := ⟨("_law_kin_of", none), "_law_kin_of", "_law_kin_of", defArgs s__law_kin_of, defBody s__law_kin_of, defScope s__law_kin_of, [], []⟩
def hd_law_bounds_refused : He.DefD := ⟨("_law_bounds_refused", none), "_law_bounds_refused", "_law_bounds_refused", defArgs s__law_bounds_refused, defBody s__law_bounds_refused, defScope s__law_bounds_refused, [], []⟩
def hd_law_best_refused : He.DefD := ⟨("_law_best_refused", none), "_law_best_refused", "_law_best_refused", defArgs s__law_best_refused, defBody s__law_best_refused, defScope s__law_best_refused, [], []⟩
def hd_law : He.DefD := ⟨("law", none), "law", "law", defArgs s_law, defBody s_law, defScope s_law, [], []⟩
def hd_m_init : He.DefD := ⟨("Pressing", some "__init__"), "__init__", "Pressing.__init__", defArgs s_m_init, defBody s_m_init, defScope s_m_init, [], []⟩
def hd_m_next_visit : He.DefD := ⟨("Pressing", some "next_visit"), "next_visit", "Pressing.next_visit", defArgs s_m_next_visit, defBody s_m_next_visit, defScope s_m_next_visit, [], []⟩
def hd_m_go : He.DefD := ⟨("Pressing", some "go"), "go", "Pressing.go", defArgs s_m_go, defBody s_m_go, defScope s_m_go, [], []⟩
def hd_m_comes_again : He.DefD := ⟨("Pressing", some "comes_again"), "comes_again", "Pressing.comes_again", defArgs s_m_comes_again, defBody s_m_comes_again, defScope s_m_comes_again, [], []⟩
def hd_m_at : He.DefD := ⟨("Pressing", some "at"), "at", "Pressing.at", defArgs s_m_at, defBody s_m_at, defScope s_m_at, [], []⟩
def hd_m_until : He.DefD := ⟨("Pressing", some "until"), "until", "Pressing.until", defArgs s_m_until, defBody s_m_until, defScope s_m_until, [], []⟩
def hd_t_init : He.DefD := ⟨("TooMany", some "__init__"), "__init__", "TooMany.__init__", defArgs s_t_init, defBody s_t_init, defScope s_t_init, [], []⟩
def hdFn : List He.DefD := [hd_law_take, hd_law_far_draw, hd_law_stair, hd_law_walkers, hd_law_draws, hd_law_cell_at, hd_law_bag, hd_law_bags, hd_is_within, hd_is_name, hd_is_stair, hd_is_walker, hd_are_all_walkers, hd_need_stair, hd_need_house, hd_need_landing, hd_need_tick, hd_firsts, hd_pressing, hd_comes_round, hd_how_many, hd_need_number, hd_press, hd_who_come, hd_come, hd_shares, hd_common, hd_need_fraction, hd_least_burning, hd_by_days, hd_best_begin, hd_need_asked, hd_lot, hd_are_ticks, hd_are_keeping, hd_is_lot, hd_law_refused, hd_law_asked, hd_law_kin_of, hd_law_bounds_refused, hd_law_best_refused, hd_law, hd_m_init, hd_m_next_visit, hd_m_go, hd_m_comes_again, hd_m_at, hd_m_until, hd_t_init]
def hdFa : List He.Fa := ([.glo "_law_take", .glo "_law_far_draw", .glo "_law_stair", .glo "_law_walkers", .glo "_law_draws", .glo "_law_cell_at", .glo "_law_bag", .glo "_law_bags", .glo "is_within", .glo "is_name", .glo "is_stair", .glo "is_walker", .glo "are_all_walkers", .glo "need_stair", .glo "need_house", .glo "need_landing", .glo "need_tick", .glo "firsts", .glo "pressing", .glo "comes_round", .glo "how_many", .glo "need_number", .glo "press", .glo "who_come", .glo "come", .glo "shares", .glo "common", .glo "need_fraction", .glo "least_burning", .glo "by_days"] : List He.Fa) ++ ([.glo "best_begin", .glo "need_asked", .glo "lot", .glo "are_ticks", .glo "are_keeping", .glo "is_lot", .glo "_law_refused", .glo "_law_asked", .glo "_law_kin_of", .glo "_law_bounds_refused", .glo "_law_best_refused", .glo "law", .free "len", .free "range", .free "int", .free "bool", .free "str", .free "list", .free "tuple", .free "set", .free "max", .free "min", .free "sum", .free "all", .free "any", .free "sorted", .free "zip", .free "enumerate", .free "isinstance", .free "repr"] : List He.Fa) ++ ([.free "ValueError", .int "FAR" 1000000000000000000, .int "MOST" 200, .int "LAST" 2000, .str "SMALL" "abcdefghijklmnopqrstuvwxyz", .glo "Pressing", .cls "Pressing", .mkr "Pressing", .noat "Pressing" "day", .noat "Pressing" "burning", .noat "Pressing" "begun", .noat "Pressing" "rows", .noat "Pressing" "presses", .noat "Pressing" "days", .noat "Pressing" "ahead", .meth "Pressing" "next_visit", .meth "Pressing" "go", .meth "Pressing" "comes_again", .meth "Pressing" "at", .meth "Pressing" "until", .glo "NoStair", .exc "NoStair", .glo "NoWalkers", .exc "NoWalkers", .glo "NoName", .exc "NoName", .glo "NoLanding", .exc "NoLanding", .glo "NoTick", .exc "NoTick"] : List He.Fa) ++ ([.glo "NoNumber", .exc "NoNumber", .glo "NoFraction", .exc "NoFraction", .glo "TooMany", .glo "LampError"] : List He.Fa)
abbrev hdR : PySem.W.OpenRow := PySem.W.OpenLaw.row PySem.Challenge.rw_stairlamps_k12_who_is_refused
def excCB (K : PySem.W.Frag) (D : Addr) : Bool := He.eqO (PySem.W.findIn K (.ref D) "__getattribute__") (some (some (.builtin "BaseException.__getattribute__"))) && (He.eqO (PySem.W.findIn K (.ref D) "__getattr__") (some none) && (decide (PySem.W.subIn K (.ref D) (.type "BaseException") = some true) && (PySem.W.hasDictIn K D && (He.eqO (PySem.W.findIn K (.ref D) "__class__") (some (some (.builtin "object.__class__"))) && (He.eqO (PySem.W.specialIn K (.builtin "object.__class__") "__get__") (some (some (.builtin "getset_descriptor.__get__"))) && (decide (PySem.W.takesIn K (.builtin "object.__class__") = some true) && decide (PySem.W.mroIn K D (.type "object") = some true)))))))
theorem excCB_ok {K : PySem.W.Frag} {D : Addr} (h : excCB K D = true) : ExcC K D := by
  obtain ⟨h1, h⟩ := He.ba h
  obtain ⟨h2, h⟩ := He.ba h
  obtain ⟨h3, h⟩ := He.ba h
  obtain ⟨h4, h⟩ := He.ba h
  obtain ⟨h5, h⟩ := He.ba h
  obtain ⟨h6, h⟩ := He.ba h
  obtain ⟨h7, h8⟩ := He.ba h
  exact ⟨He.eqO_ok h1, He.eqO_ok h2, of_decide_eq_true h3, h4, He.eqO_ok h5, He.eqO_ok h6, of_decide_eq_true h7, of_decide_eq_true h8⟩
def viB (K : PySem.W.Frag) (L : Addr) : Bool := match PySem.W.findCls K (.ref L) (.type "type") "__init__" with
  | some (.val (.builtin n)) => n == "ValueError.__init__"
  | _ => false
theorem viB_ok {K : PySem.W.Frag} {L : Addr} (h : viB K L = true) : PySem.W.findCls K (.ref L) (.type "type") "__init__" = some (.val (.builtin "ValueError.__init__")) := by
  unfold viB at h
  split at h
  · next n e => rw [e, beq_iff_eq.mp h]
  · cases h
def hdMany (K : PySem.W.Frag) (TM LE NN : Addr) : Bool := excCB K TM && (He.eqO (PySem.W.findIn K (.ref TM) "most") (some none) && (decide (PySem.W.exmOne K (.ref TM) (.ref TM) = some true) && (decide (PySem.W.kitOne K (.ref TM) (.ref NN) = some false) && (decide (PySem.W.kitOne K (.ref TM) (.type "ValueError") = some true) &&
  (oexB K TM && (He.eqO (PySem.W.findIn K (.ref TM) "__setattr__") (some (some (.builtin "object.__setattr__"))) && (decide (PySem.W.subIn K (.ref TM) (.type "BaseException") = some true) && (decide (PySem.W.typeIn K (.ref TM) = some (.type "type")) && (PySem.W.keepIn K (.ref TM) &&
  (He.eqO (PySem.W.findIn K (.ref TM) "__init__") (some (some (.ref (He.ma K TM "__init__")))) && (decide (PySem.W.typeIn K (.ref (He.ma K TM "__init__")) = some (.type "function")) && (He.eqO (PySem.W.specialIn K (.ref LE) "__getattribute__") (some (some (.builtin "type.__getattribute__"))) && (PySem.W.readsIn K LE (.type "type") && viB K LE)))))))))))))
structure ManyK (K : PySem.W.Frag) (TM LE NN : Addr) : Prop where
  c : ExcC K TM
  f : PySem.W.findIn K (.ref TM) "most" = some none
  x : PySem.W.exmOne K (.ref TM) (.ref TM) = some true
  n : PySem.W.kitOne K (.ref TM) (.ref NN) = some false
  v : PySem.W.kitOne K (.ref TM) (.type "ValueError") = some true
  o : OexC K TM
  i : PySem.W.findIn K (.ref TM) "__init__" = some (some (.ref (He.ma K TM "__init__")))
  t : PySem.W.typeIn K (.ref (He.ma K TM "__init__")) = some (.type "function")
  tg : PySem.W.specialIn K (.ref LE) "__getattribute__" = some (some (.builtin "type.__getattribute__"))
  rd : PySem.W.readsIn K LE (.type "type") = true
  vi : PySem.W.findCls K (.ref LE) (.type "type") "__init__" = some (.val (.builtin "ValueError.__init__"))
theorem hdMany_ok {K : PySem.W.Frag} {TM LE NN : Addr} (h : hdMany K TM LE NN = true) : ManyK K TM LE NN := by
  obtain ⟨h1, h⟩ := He.ba h
  obtain ⟨h2, h⟩ := He.ba h
  obtain ⟨h3, h⟩ := He.ba h
  obtain ⟨h4, h⟩ := He.ba h
  obtain ⟨h5, h⟩ := He.ba h
  obtain ⟨h6, h⟩ := He.ba h
  obtain ⟨h7, h⟩ := He.ba h
  obtain ⟨h8, h⟩ := He.ba h
  obtain ⟨h9, h⟩ := He.ba h
  obtain ⟨h10, h⟩ := He.ba h
  obtain ⟨h11, h⟩ := He.ba h
  obtain ⟨h12, h⟩ := He.ba h
  obtain ⟨h13, h⟩ := He.ba h
  obtain ⟨h14, h15⟩ := He.ba h
  exact ⟨excCB_ok h1, He.eqO_ok h2, of_decide_eq_true h3, of_decide_eq_true h4, of_decide_eq_true h5, ⟨oexB_ok h6, He.eqO_ok h7, of_decide_eq_true h8, of_decide_eq_true h9, h10⟩, He.eqO_ok h11, of_decide_eq_true h12, He.eqO_ok h13, h14, viB_ok h15⟩
def hdEx (K : PySem.W.Frag) : Bool := (errNames.all fun x => excCB K (He.ga K x)) && ((errNames.all fun x => errNames.all fun y => decide (PySem.W.kitOne K (.ref (He.ga K x)) (.ref (He.ga K y)) = some (decide (x = y)))) && ((errNames.all fun x => decide (PySem.W.kitOne K (.ref (He.ga K x)) (.type "ValueError") = some true) && (decide (PySem.W.exmOne K (.ref (He.ga K x)) (.ref (He.ga K "TooMany")) = some false) && decide (PySem.W.exmOne K (.ref (He.ga K x)) (.ref (He.ga K "LampError")) = some true))) && hdMany K (He.ga K "TooMany") (He.ga K "LampError") (He.ga K "NoName")))
theorem hdEx_many {K : PySem.W.Frag} (h : hdEx K = true) : ManyK K (He.ga K "TooMany") (He.ga K "LampError") (He.ga K "NoName") := hdMany_ok (He.ba (He.ba (He.ba h).2).2).2
theorem hdEx_ok {K : PySem.W.Frag} {mg : Str → Option Value} (h : hdEx K = true) (k : ∀ x ∈ errNames, ExcK K mg x (He.ga K x)) (gt : mg "TooMany" = some (.ref (He.ga K "TooMany"))) (gl : mg "LampError" = some (.ref (He.ga K "LampError"))) : RefK K mg := by
  have M := hdEx_many h
  obtain ⟨h1, h⟩ := He.ba h
  obtain ⟨h2, h⟩ := He.ba h
  have h3 := (He.ba h).1
  exact ⟨k, fun x hx => excCB_ok (List.all_eq_true.mp h1 x hx), fun x hx y hy => of_decide_eq_true (List.all_eq_true.mp (List.all_eq_true.mp h2 x hx) y hy), fun x hx => of_decide_eq_true (He.ba (List.all_eq_true.mp h3 x hx)).1, fun x hx => of_decide_eq_true (He.ba (He.ba (List.all_eq_true.mp h3 x hx)).2).1, fun x hx => of_decide_eq_true (He.ba (He.ba (List.all_eq_true.mp h3 x hx)).2).2, ⟨gt⟩, ⟨gl⟩, M.c, M.f, M.x, M.n, M.v⟩

def hdTf : List He.Defn := [("_law_kin_of", none)]
abbrev hdH : PySem.W.Hook := hookY 4 hdFa hdFn [] hdTf hdEx
def hdOb (s : PySem.W.SharedT) : He.AlX := obsY 4 hdFa hdFn [] hdTf hdEx (HandSHeadRun.getT s)
theorem hdOb_eq (s : PySem.W.SharedT) : hdOb s = hdH.obs s.abs := obsY_eq (HandSHeadRun.getT_eq s)
def hdNames : List Str := (["LampError", "NoStair", "NoWalkers", "NoLanding", "NoTick", "NoNumber", "NoName", "NoFraction", "TooMany", "SMALL", "FAR", "is_within", "is_name", "is_stair", "need_stair", "is_walker", "are_all_walkers", "need_house", "need_landing", "need_tick", "need_number", "firsts", "who_come", "come", "Pressing", "pressing", "press", "how_many", "comes_round", "shares"] : List Str) ++ (["LAST", "need_asked", "lot", "are_ticks", "are_keeping", "is_lot", "MOST", "common", "need_fraction", "least_burning", "by_days", "best_begin", "_law_cell_at", "_law_draws", "_law_bag", "_law_bags", "_law_take", "_law_far_draw", "_law_stair", "_law_walkers", "_law_refused", "_law_asked", "_law_kin_of", "_law_bounds_refused", "_law_best_refused"] : List Str)
theorem hdRun (w : World) : HandSHeadRun.RunEq hdR (PySem.W.view hdR.prog [61]) hdH hdOb 6000 hdNames w := by
  intro os
  kernel_rfl
theorem hdFacts {P : Program} {w : World} {K : PySem.W.Frag} {h : Heap} {mg : Str → Option Value} {f : Addr} (X : K.In h) (G : h.Ns mainGlobals mg) (hfa : mg ("law" : Str) = some (.ref f)) (cx : He.SaysX hdFa hdFn [] hdTf hdEx w h K) :
    ∃ fd : FuncData, (∀ (s : Shared) (v : Value), BindsTo s fd ⟨[v], []⟩ [("script", v)]) ∧ ∀ base : Heap, K.In base → base.Ns mainGlobals mg → (∀ p ∈ hdTf, LamX.TabB base mg (He.cT K p).1 (He.cT K p).2) → FnOk P w K mg base CX0 14 f fd ["script"] (spLaw K (He.cT K ("_law_kin_of", none)).2) := by
  have c := cx.t.d
  obtain ⟨fd_law_take, F_law_take⟩ := c.def_ 0 (d := hd_law_take) rfl
  have d_law_take : Def K mg "_law_take" s__law_take := ⟨_, fd_law_take, He.glo_ok X G (c.fact 0 (f := .glo "_law_take") rfl), F_law_take⟩
  obtain ⟨fd_law_far_draw, F_law_far_draw⟩ := c.def_ 1 (d := hd_law_far_draw) rfl
  have d_law_far_draw : Def K mg "_law_far_draw" s__law_far_draw := ⟨_, fd_law_far_draw, He.glo_ok X G (c.fact 1 (f := .glo "_law_far_draw") rfl), F_law_far_draw⟩
  obtain ⟨fd_law_stair, F_law_stair⟩ := c.def_ 2 (d := hd_law_stair) rfl
  have d_law_stair : Def K mg "_law_stair" s__law_stair := ⟨_, fd_law_stair, He.glo_ok X G (c.fact 2 (f := .glo "_law_stair") rfl), F_law_stair⟩
  obtain ⟨fd_law_walkers, F_law_walkers⟩ := c.def_ 3 (d := hd_law_walkers) rfl
  have d_law_walkers : Def K mg "_law_walkers" s__law_walkers := ⟨_, fd_law_walkers, He.glo_ok X G (c.fact 3 (f := .glo "_law_walkers") rfl), F_law_walkers⟩
  obtain ⟨fd_law_draws, F_law_draws⟩ := c.def_ 4 (d := hd_law_draws) rfl
  have d_law_draws : Def K mg "_law_draws" s__law_draws := ⟨_, fd_law_draws, He.glo_ok X G (c.fact 4 (f := .glo "_law_draws") rfl), F_law_draws⟩
  obtain ⟨fd_law_cell_at, F_law_cell_at⟩ := c.def_ 5 (d := hd_law_cell_at) rfl
  have d_law_cell_at : Def K mg "_law_cell_at" s__law_cell_at := ⟨_, fd_law_cell_at, He.glo_ok X G (c.fact 5 (f := .glo "_law_cell_at") rfl), F_law_cell_at⟩
  obtain ⟨fd_law_bag, F_law_bag⟩ := c.def_ 6 (d := hd_law_bag) rfl
  have d_law_bag : Def K mg "_law_bag" s__law_bag := ⟨_, fd_law_bag, He.glo_ok X G (c.fact 6 (f := .glo "_law_bag") rfl), F_law_bag⟩
  obtain ⟨fd_law_bags, F_law_bags⟩ := c.def_ 7 (d := hd_law_bags) rfl
  have d_law_bags : Def K mg "_law_bags" s__law_bags := ⟨_, fd_law_bags, He.glo_ok X G (c.fact 7 (f := .glo "_law_bags") rfl), F_law_bags⟩
  obtain ⟨fd_is_within, F_is_within⟩ := c.def_ 8 (d := hd_is_within) rfl
  have d_is_within : Def K mg "is_within" s_is_within := ⟨_, fd_is_within, He.glo_ok X G (c.fact 8 (f := .glo "is_within") rfl), F_is_within⟩
  obtain ⟨fd_is_name, F_is_name⟩ := c.def_ 9 (d := hd_is_name) rfl
  have d_is_name : Def K mg "is_name" s_is_name := ⟨_, fd_is_name, He.glo_ok X G (c.fact 9 (f := .glo "is_name") rfl), F_is_name⟩
  obtain ⟨fd_is_stair, F_is_stair⟩ := c.def_ 10 (d := hd_is_stair) rfl
  have d_is_stair : Def K mg "is_stair" s_is_stair := ⟨_, fd_is_stair, He.glo_ok X G (c.fact 10 (f := .glo "is_stair") rfl), F_is_stair⟩
  obtain ⟨fd_is_walker, F_is_walker⟩ := c.def_ 11 (d := hd_is_walker) rfl
  have d_is_walker : Def K mg "is_walker" s_is_walker := ⟨_, fd_is_walker, He.glo_ok X G (c.fact 11 (f := .glo "is_walker") rfl), F_is_walker⟩
  obtain ⟨fd_are_all_walkers, F_are_all_walkers⟩ := c.def_ 12 (d := hd_are_all_walkers) rfl
  have d_are_all_walkers : Def K mg "are_all_walkers" s_are_all_walkers := ⟨_, fd_are_all_walkers, He.glo_ok X G (c.fact 12 (f := .glo "are_all_walkers") rfl), F_are_all_walkers⟩
  obtain ⟨fd_need_stair, F_need_stair⟩ := c.def_ 13 (d := hd_need_stair) rfl
  have d_need_stair : Def K mg "need_stair" s_need_stair := ⟨_, fd_need_stair, He.glo_ok X G (c.fact 13 (f := .glo "need_stair") rfl), F_need_stair⟩
  obtain ⟨fd_need_house, F_need_house⟩ := c.def_ 14 (d := hd_need_house) rfl
  have d_need_house : Def K mg "need_house" s_need_house := ⟨_, fd_need_house, He.glo_ok X G (c.fact 14 (f := .glo "need_house") rfl), F_need_house⟩
  obtain ⟨fd_need_landing, F_need_landing⟩ := c.def_ 15 (d := hd_need_landing) rfl
  have d_need_landing : Def K mg "need_landing" s_need_landing := ⟨_, fd_need_landing, He.glo_ok X G (c.fact 15 (f := .glo "need_landing") rfl), F_need_landing⟩
  obtain ⟨fd_need_tick, F_need_tick⟩ := c.def_ 16 (d := hd_need_tick) rfl
  have d_need_tick : Def K mg "need_tick" s_need_tick := ⟨_, fd_need_tick, He.glo_ok X G (c.fact 16 (f := .glo "need_tick") rfl), F_need_tick⟩
  obtain ⟨fd_firsts, F_firsts⟩ := c.def_ 17 (d := hd_firsts) rfl
  have d_firsts : Def K mg "firsts" s_firsts := ⟨_, fd_firsts, He.glo_ok X G (c.fact 17 (f := .glo "firsts") rfl), F_firsts⟩
  obtain ⟨fd_pressing, F_pressing⟩ := c.def_ 18 (d := hd_pressing) rfl
  have d_pressing : Def K mg "pressing" s_pressing := ⟨_, fd_pressing, He.glo_ok X G (c.fact 18 (f := .glo "pressing") rfl), F_pressing⟩
  obtain ⟨fd_comes_round, F_comes_round⟩ := c.def_ 19 (d := hd_comes_round) rfl
  have d_comes_round : Def K mg "comes_round" s_comes_round := ⟨_, fd_comes_round, He.glo_ok X G (c.fact 19 (f := .glo "comes_round") rfl), F_comes_round⟩
  obtain ⟨fd_how_many, F_how_many⟩ := c.def_ 20 (d := hd_how_many) rfl
  have d_how_many : Def K mg "how_many" s_how_many := ⟨_, fd_how_many, He.glo_ok X G (c.fact 20 (f := .glo "how_many") rfl), F_how_many⟩
  obtain ⟨fd_need_number, F_need_number⟩ := c.def_ 21 (d := hd_need_number) rfl
  have d_need_number : Def K mg "need_number" s_need_number := ⟨_, fd_need_number, He.glo_ok X G (c.fact 21 (f := .glo "need_number") rfl), F_need_number⟩
  obtain ⟨fd_press, F_press⟩ := c.def_ 22 (d := hd_press) rfl
  have d_press : Def K mg "press" s_press := ⟨_, fd_press, He.glo_ok X G (c.fact 22 (f := .glo "press") rfl), F_press⟩
  obtain ⟨fd_who_come, F_who_come⟩ := c.def_ 23 (d := hd_who_come) rfl
  have d_who_come : Def K mg "who_come" s_who_come := ⟨_, fd_who_come, He.glo_ok X G (c.fact 23 (f := .glo "who_come") rfl), F_who_come⟩
  obtain ⟨fd_come, F_come⟩ := c.def_ 24 (d := hd_come) rfl
  have d_come : Def K mg "come" s_come := ⟨_, fd_come, He.glo_ok X G (c.fact 24 (f := .glo "come") rfl), F_come⟩
  obtain ⟨fd_shares, F_shares⟩ := c.def_ 25 (d := hd_shares) rfl
  have d_shares : Def K mg "shares" s_shares := ⟨_, fd_shares, He.glo_ok X G (c.fact 25 (f := .glo "shares") rfl), F_shares⟩
  obtain ⟨fd_common, F_common⟩ := c.def_ 26 (d := hd_common) rfl
  have d_common : Def K mg "common" s_common := ⟨_, fd_common, He.glo_ok X G (c.fact 26 (f := .glo "common") rfl), F_common⟩
  obtain ⟨fd_need_fraction, F_need_fraction⟩ := c.def_ 27 (d := hd_need_fraction) rfl
  have d_need_fraction : Def K mg "need_fraction" s_need_fraction := ⟨_, fd_need_fraction, He.glo_ok X G (c.fact 27 (f := .glo "need_fraction") rfl), F_need_fraction⟩
  obtain ⟨fd_least_burning, F_least_burning⟩ := c.def_ 28 (d := hd_least_burning) rfl
  have d_least_burning : Def K mg "least_burning" s_least_burning := ⟨_, fd_least_burning, He.glo_ok X G (c.fact 28 (f := .glo "least_burning") rfl), F_least_burning⟩
  obtain ⟨fd_by_days, F_by_days⟩ := c.def_ 29 (d := hd_by_days) rfl
  have d_by_days : Def K mg "by_days" s_by_days := ⟨_, fd_by_days, He.glo_ok X G (c.fact 29 (f := .glo "by_days") rfl), F_by_days⟩
  obtain ⟨fd_best_begin, F_best_begin⟩ := c.def_ 30 (d := hd_best_begin) rfl
  have d_best_begin : Def K mg "best_begin" s_best_begin := ⟨_, fd_best_begin, He.glo_ok X G (c.fact 30 (f := .glo "best_begin") rfl), F_best_begin⟩
  obtain ⟨fd_need_asked, F_need_asked⟩ := c.def_ 31 (d := hd_need_asked) rfl
  have d_need_asked : Def K mg "need_asked" s_need_asked := ⟨_, fd_need_asked, He.glo_ok X G (c.fact 31 (f := .glo "need_asked") rfl), F_need_asked⟩
  obtain ⟨fd_lot, F_lot⟩ := c.def_ 32 (d := hd_lot) rfl
  have d_lot : Def K mg "lot" s_lot := ⟨_, fd_lot, He.glo_ok X G (c.fact 32 (f := .glo "lot") rfl), F_lot⟩
  obtain ⟨fd_are_ticks, F_are_ticks⟩ := c.def_ 33 (d := hd_are_ticks) rfl
  have d_are_ticks : Def K mg "are_ticks" s_are_ticks := ⟨_, fd_are_ticks, He.glo_ok X G (c.fact 33 (f := .glo "are_ticks") rfl), F_are_ticks⟩
  obtain ⟨fd_are_keeping, F_are_keeping⟩ := c.def_ 34 (d := hd_are_keeping) rfl
  have d_are_keeping : Def K mg "are_keeping" s_are_keeping := ⟨_, fd_are_keeping, He.glo_ok X G (c.fact 34 (f := .glo "are_keeping") rfl), F_are_keeping⟩
  obtain ⟨fd_is_lot, F_is_lot⟩ := c.def_ 35 (d := hd_is_lot) rfl
  have d_is_lot : Def K mg "is_lot" s_is_lot := ⟨_, fd_is_lot, He.glo_ok X G (c.fact 35 (f := .glo "is_lot") rfl), F_is_lot⟩
  obtain ⟨fd_law_refused, F_law_refused⟩ := c.def_ 36 (d := hd_law_refused) rfl
  have d_law_refused : Def K mg "_law_refused" s__law_refused := ⟨_, fd_law_refused, He.glo_ok X G (c.fact 36 (f := .glo "_law_refused") rfl), F_law_refused⟩
  obtain ⟨fd_law_asked, F_law_asked⟩ := c.def_ 37 (d := hd_law_asked) rfl
  have d_law_asked : Def K mg "_law_asked" s__law_asked := ⟨_, fd_law_asked, He.glo_ok X G (c.fact 37 (f := .glo "_law_asked") rfl), F_law_asked⟩
  obtain ⟨fd_law_kin_of, F_law_kin_of⟩ := c.def_ 38 (d := hd_law_kin_of) rfl
  have d_law_kin_of : Def K mg "_law_kin_of" s__law_kin_of := ⟨_, fd_law_kin_of, He.glo_ok X G (c.fact 38 (f := .glo "_law_kin_of") rfl), F_law_kin_of⟩
  obtain ⟨fd_law_bounds_refused, F_law_bounds_refused⟩ := c.def_ 39 (d := hd_law_bounds_refused) rfl
  have d_law_bounds_refused : Def K mg "_law_bounds_refused" s__law_bounds_refused := ⟨_, fd_law_bounds_refused, He.glo_ok X G (c.fact 39 (f := .glo "_law_bounds_refused") rfl), F_law_bounds_refused⟩
  obtain ⟨fd_law_best_refused, F_law_best_refused⟩ := c.def_ 40 (d := hd_law_best_refused) rfl
  have d_law_best_refused : Def K mg "_law_best_refused" s__law_best_refused := ⟨_, fd_law_best_refused, He.glo_ok X G (c.fact 40 (f := .glo "_law_best_refused") rfl), F_law_best_refused⟩
  obtain ⟨fd, F⟩ := c.def_ 41 (d := hd_law) rfl
  have e := hfa.symm.trans (He.glo_ok X G (c.fact 41 (f := .glo "law") rfl))
  cases e
  have T : Bl mg := ⟨He.free_ok X G (c.fact 42 (f := .free "len") rfl), He.free_ok X G (c.fact 43 (f := .free "range") rfl), He.free_ok X G (c.fact 44 (f := .free "int") rfl), He.free_ok X G (c.fact 45 (f := .free "bool") rfl), He.free_ok X G (c.fact 46 (f := .free "str") rfl), He.free_ok X G (c.fact 47 (f := .free "list") rfl), He.free_ok X G (c.fact 48 (f := .free "tuple") rfl), He.free_ok X G (c.fact 49 (f := .free "set") rfl), He.free_ok X G (c.fact 50 (f := .free "max") rfl), He.free_ok X G (c.fact 51 (f := .free "min") rfl), He.free_ok X G (c.fact 52 (f := .free "sum") rfl), He.free_ok X G (c.fact 53 (f := .free "all") rfl), He.free_ok X G (c.fact 54 (f := .free "any") rfl), He.free_ok X G (c.fact 55 (f := .free "sorted") rfl), He.free_ok X G (c.fact 56 (f := .free "zip") rfl), He.free_ok X G (c.fact 57 (f := .free "enumerate") rfl), He.free_ok X G (c.fact 58 (f := .free "isinstance") rfl), He.free_ok X G (c.fact 59 (f := .free "repr") rfl), He.free_ok X G (c.fact 60 (f := .free "ValueError") rfl)⟩
  have TFAR := He.int_ok X G (c.fact 61 (f := .int "FAR" 1000000000000000000) rfl)
  have TMOST := He.int_ok X G (c.fact 62 (f := .int "MOST" 200) rfl)
  have TLAST := He.int_ok X G (c.fact 63 (f := .int "LAST" 2000) rfl)
  have TSMALL := He.str_ok X G (c.fact 64 (f := .str "SMALL" "abcdefghijklmnopqrstuvwxyz") rfl)
  have X_NoStair : ExcK K mg "NoStair" (He.ga K "NoStair") := ⟨He.glo_ok X G (c.fact 80 (f := .glo "NoStair") rfl), (He.exc_ok (c.fact 81 (f := .exc "NoStair") rfl)).1, (He.exc_ok (c.fact 81 (f := .exc "NoStair") rfl)).2.1, (He.exc_ok (c.fact 81 (f := .exc "NoStair") rfl)).2.2.1, (He.exc_ok (c.fact 81 (f := .exc "NoStair") rfl)).2.2.2⟩
  have X_NoWalkers : ExcK K mg "NoWalkers" (He.ga K "NoWalkers") := ⟨He.glo_ok X G (c.fact 82 (f := .glo "NoWalkers") rfl), (He.exc_ok (c.fact 83 (f := .exc "NoWalkers") rfl)).1, (He.exc_ok (c.fact 83 (f := .exc "NoWalkers") rfl)).2.1, (He.exc_ok (c.fact 83 (f := .exc "NoWalkers") rfl)).2.2.1, (He.exc_ok (c.fact 83 (f := .exc "NoWalkers") rfl)).2.2.2⟩
  have X_NoName : ExcK K mg "NoName" (He.ga K "NoName") := ⟨He.glo_ok X G (c.fact 84 (f := .glo "NoName") rfl), (He.exc_ok (c.fact 85 (f := .exc "NoName") rfl)).1, (He.exc_ok (c.fact 85 (f := .exc "NoName") rfl)).2.1, (He.exc_ok (c.fact 85 (f := .exc "NoName") rfl)).2.2.1, (He.exc_ok (c.fact 85 (f := .exc "NoName") rfl)).2.2.2⟩
  have X_NoLanding : ExcK K mg "NoLanding" (He.ga K "NoLanding") := ⟨He.glo_ok X G (c.fact 86 (f := .glo "NoLanding") rfl), (He.exc_ok (c.fact 87 (f := .exc "NoLanding") rfl)).1, (He.exc_ok (c.fact 87 (f := .exc "NoLanding") rfl)).2.1, (He.exc_ok (c.fact 87 (f := .exc "NoLanding") rfl)).2.2.1, (He.exc_ok (c.fact 87 (f := .exc "NoLanding") rfl)).2.2.2⟩
  have X_NoTick : ExcK K mg "NoTick" (He.ga K "NoTick") := ⟨He.glo_ok X G (c.fact 88 (f := .glo "NoTick") rfl), (He.exc_ok (c.fact 89 (f := .exc "NoTick") rfl)).1, (He.exc_ok (c.fact 89 (f := .exc "NoTick") rfl)).2.1, (He.exc_ok (c.fact 89 (f := .exc "NoTick") rfl)).2.2.1, (He.exc_ok (c.fact 89 (f := .exc "NoTick") rfl)).2.2.2⟩
  have X_NoNumber : ExcK K mg "NoNumber" (He.ga K "NoNumber") := ⟨He.glo_ok X G (c.fact 90 (f := .glo "NoNumber") rfl), (He.exc_ok (c.fact 91 (f := .exc "NoNumber") rfl)).1, (He.exc_ok (c.fact 91 (f := .exc "NoNumber") rfl)).2.1, (He.exc_ok (c.fact 91 (f := .exc "NoNumber") rfl)).2.2.1, (He.exc_ok (c.fact 91 (f := .exc "NoNumber") rfl)).2.2.2⟩
  have X_NoFraction : ExcK K mg "NoFraction" (He.ga K "NoFraction") := ⟨He.glo_ok X G (c.fact 92 (f := .glo "NoFraction") rfl), (He.exc_ok (c.fact 93 (f := .exc "NoFraction") rfl)).1, (He.exc_ok (c.fact 93 (f := .exc "NoFraction") rfl)).2.1, (He.exc_ok (c.fact 93 (f := .exc "NoFraction") rfl)).2.2.1, (He.exc_ok (c.fact 93 (f := .exc "NoFraction") rfl)).2.2.2⟩
  have R0 : RefK K mg := hdEx_ok cx.more (fun x hx => by simp only [errNames, List.mem_cons, List.mem_nil_iff, or_false] at hx; rcases hx with rfl | rfl | rfl | rfl | rfl | rfl | rfl <;> assumption) (He.glo_ok X G (c.fact 94 (f := .glo "TooMany") rfl)) (He.glo_ok X G (c.fact 95 (f := .glo "LampError") rfl))
  have g_Pressing := He.glo_ok X G (c.fact 65 (f := .glo "Pressing") rfl)
  have XT : PTxt K (He.ga K "Pressing") := ⟨He.cls_ok (c.fact 66 (f := .cls "Pressing") rfl), He.noat_ok (c.fact 68 (f := .noat "Pressing" "day") rfl), He.noat_ok (c.fact 69 (f := .noat "Pressing" "burning") rfl), He.noat_ok (c.fact 70 (f := .noat "Pressing" "begun") rfl), He.noat_ok (c.fact 71 (f := .noat "Pressing" "rows") rfl), He.noat_ok (c.fact 72 (f := .noat "Pressing" "presses") rfl), He.noat_ok (c.fact 73 (f := .noat "Pressing" "days") rfl), He.noat_ok (c.fact 74 (f := .noat "Pressing" "ahead") rfl)⟩
  have MK := He.mkr_ok (c.fact 67 (f := .mkr "Pressing") rfl)
  obtain ⟨fd_m_init, F_m_init⟩ := c.def_ 42 (d := hd_m_init) rfl
  obtain ⟨fd_m_next_visit, F_m_next_visit⟩ := c.def_ 43 (d := hd_m_next_visit) rfl
  obtain ⟨fd_m_go, F_m_go⟩ := c.def_ 44 (d := hd_m_go) rfl
  obtain ⟨fd_m_comes_again, F_m_comes_again⟩ := c.def_ 45 (d := hd_m_comes_again) rfl
  obtain ⟨fd_m_at, F_m_at⟩ := c.def_ 46 (d := hd_m_at) rfl
  obtain ⟨fd_m_until, F_m_until⟩ := c.def_ 47 (d := hd_m_until) rfl
  have dm_next_visit : DefM K (He.ga K "Pressing") "Pressing" "next_visit" s_m_next_visit := ⟨_, fd_m_next_visit, He.meth_ok (c.fact 75 (f := .meth "Pressing" "next_visit") rfl), by rw [show (("Pressing" : Str) ++ "." ++ "next_visit") = ("Pressing.next_visit" : Str) from by decide +kernel]; exact F_m_next_visit⟩
  have dm_go : DefM K (He.ga K "Pressing") "Pressing" "go" s_m_go := ⟨_, fd_m_go, He.meth_ok (c.fact 76 (f := .meth "Pressing" "go") rfl), by rw [show (("Pressing" : Str) ++ "." ++ "go") = ("Pressing.go" : Str) from by decide +kernel]; exact F_m_go⟩
  have dm_comes_again : DefM K (He.ga K "Pressing") "Pressing" "comes_again" s_m_comes_again := ⟨_, fd_m_comes_again, He.meth_ok (c.fact 77 (f := .meth "Pressing" "comes_again") rfl), by rw [show (("Pressing" : Str) ++ "." ++ "comes_again") = ("Pressing.comes_again" : Str) from by decide +kernel]; exact F_m_comes_again⟩
  have dm_at : DefM K (He.ga K "Pressing") "Pressing" "at" s_m_at := ⟨_, fd_m_at, He.meth_ok (c.fact 78 (f := .meth "Pressing" "at") rfl), by rw [show (("Pressing" : Str) ++ "." ++ "at") = ("Pressing.at" : Str) from by decide +kernel]; exact F_m_at⟩
  have dm_until : DefM K (He.ga K "Pressing") "Pressing" "until" s_m_until := ⟨_, fd_m_until, He.meth_ok (c.fact 79 (f := .meth "Pressing" "until") rfl), by rw [show (("Pressing" : Str) ++ "." ++ "until") = ("Pressing.until" : Str) from by decide +kernel]; exact F_m_until⟩
  obtain ⟨fd_t_init, F_t_init⟩ := c.def_ 48 (d := hd_t_init) rfl
  have MANY := hdEx_many cx.more
  refine ⟨fd, law_binds (sL := s_law) F (fun _ _ _ _ _ _ _ us hl => match us, hl with | [_], _ => rfl), fun base _ _ TBS => ?_⟩
  have INI := ini_many (P := P) (w := w) (base := base) F_t_init (He.glo_ok X G (c.fact 95 (f := .glo "LampError") rfl)) MANY.tg MANY.rd MANY.vi
  have hcode : ∀ (oc : Value) (od : Option Addr) (fd' : FuncData) (osl : Array (Option Value)), K.lookup (He.ga K "law") = some ⟨oc, od, .func fd', osl⟩ → fd'.code = .ref (He.cT K ("law", none)).1 := by
    intro oc od fd' osl lk
    obtain ⟨oc', od', dV, kV, doc, pm, an, cdv, ct, osl', e1, lk', hcd, _⟩ := F.ex
    obtain ⟨cc, e2⟩ := He.codeIn_ref hcd
    have e3 : fd = fd' := by
      have e := lk'.symm.trans lk
      simp only [Option.some.injEq, Obj.mk.injEq, Data.func.injEq] at e
      exact e.2.2.1
    subst e3
    have e4 : fd.code = .ref cc := by rw [e1, ← e2]
    have e5 := He.codeOf_eq (p := ("law", none)) lk e4
    show fd.code = .ref (He.codeOf K ("law", none))
    rw [e5]; exact e4
  have hcode2 : ∀ (oc : Value) (od : Option Addr) (fd' : FuncData) (osl : Array (Option Value)), K.lookup (He.ga K "_law_kin_of") = some ⟨oc, od, .func fd', osl⟩ → fd'.code = .ref (He.cT K ("_law_kin_of", none)).1 := by
    intro oc od fd' osl lk
    obtain ⟨oc', od', dV, kV, doc, pm, an, cdv, ct, osl', e1, lk', hcd, _⟩ := F_law_kin_of.ex
    obtain ⟨cc, e2⟩ := He.codeIn_ref hcd
    have e3 : fd_law_kin_of = fd' := by
      have e := lk'.symm.trans lk
      simp only [Option.some.injEq, Obj.mk.injEq, Data.func.injEq] at e
      exact e.2.2.1
    subst e3
    have e4 : fd_law_kin_of.code = .ref cc := by rw [e1, ← e2]
    have e5 := He.codeOf_eq (p := ("_law_kin_of", none)) lk e4
    show fd_law_kin_of.code = .ref (He.codeOf K ("_law_kin_of", none))
    rw [e5]; exact e4
  have c_take := cal_law_take (P := P) (w := w) (base := base) d_law_take T
  have c_far := cal_law_far_draw (P := P) (w := w) (base := base) d_law_far_draw T c_take
  have c_stair := cal_law_stair d_law_stair T c_take c_far
  have c_walkers := cal_law_walkers d_law_walkers T c_take c_far
  have c_draws := cal_law_draws (P := P) (w := w) (base := base) d_law_draws T
  have c_cell := cal_law_cell_at (P := P) (w := w) (base := base) d_law_cell_at T
  have c_bag := cal_law_bag d_law_bag T c_draws c_cell
  have c_bags := cal_law_bags d_law_bags T c_bag
  have c_within := cal_is_within (P := P) (w := w) (base := base) d_is_within T
  have c_name := cal_is_name (P := P) (w := w) (base := base) d_is_name T TSMALL
  have c_isstair := cal_is_stair d_is_stair T c_within
  have c_iswalker := cal_is_walker d_is_walker T c_within c_name
  have c_areall := cal_are_all_walkers d_are_all_walkers T c_iswalker
  have c_needstair := cal_need_stair d_need_stair T c_isstair
  have c_needhouse := cal_need_house d_need_house T c_needstair c_areall
  have c_needlanding := cal_need_landing d_need_landing T c_needhouse c_within
  have c_needtick := cal_need_tick d_need_tick T c_within
  have c_firsts := cal_firsts (P := P) (w := w) (base := base) d_firsts T
  have m_next := cal_next (P := P) (w := w) (base := base) dm_next_visit T XT
  have m_at := cal_at (P := P) (w := w) (base := base) dm_at T XT
  have m_again := cal_again dm_comes_again T XT m_at
  have m_until := cal_until dm_until T XT m_at
  have m_go := ok_go dm_go T XT m_next m_again
  have m_init := cal_init MK F_m_init XT m_go
  have c_pressing := cal_pressing d_pressing T g_Pressing m_init c_firsts
  have c_round := cal_comes_round d_comes_round T XT c_needlanding c_pressing
  have c_many := cal_how_many d_how_many T TFAR XT c_needlanding c_needtick c_pressing m_until
  have c_neednumber := cal_need_number d_need_number T TFAR c_within
  have c_press := cal_press d_press T XT c_needlanding c_neednumber c_pressing m_at
  have c_who := cal_who_come d_who_come T c_firsts
  have c_come := cal_come d_come T TFAR c_needlanding c_needtick c_who
  have c_shares := cal_shares d_shares T XT c_needlanding c_pressing m_at
  have c_commonp := cal_common (P := P) (w := w) (base := base) d_common T
  have c_needfraction := cal_need_fraction d_need_fraction T c_within c_commonp
  have c_least := cal_least_burning d_least_burning T XT g_Pressing m_init c_firsts c_needlanding c_needfraction
  have c_bydays := cal_by_days d_by_days T XT c_pressing c_commonp
  have c_best := cal_best_begin d_best_begin T TMOST c_needhouse c_bydays
  have c_asked := cal_need_asked d_need_asked T TLAST c_needlanding c_needtick
  have c_lot := cal_lot d_lot T XT c_asked c_pressing m_at m_until
  have c_areticks := cal_are_ticks d_are_ticks T c_within
  have c_keeping := cal_are_keeping d_are_keeping T c_asked c_areticks c_who
  have c_islot := cal_is_lot d_is_lot T c_asked c_areticks c_who
  have x_needstair := cal_need_stairX d_need_stair T X_NoStair c_isstair
  have x_needhouse := cal_need_houseX d_need_house T X_NoWalkers x_needstair c_areall
  have x_needlanding := cal_need_landingX d_need_landing T X_NoLanding x_needhouse c_within
  have x_needtick := cal_need_tickX d_need_tick T X_NoTick c_within
  have x_neednumber := cal_need_numberX d_need_number T TFAR X_NoNumber c_within
  have x_needasked := cal_need_askedX d_need_asked T TLAST x_needlanding x_needtick
  have x_needfraction := cal_need_fractionX d_need_fraction T X_NoFraction c_within c_commonp
  have XO : ExcO P w K mg base "TooMany" (He.ga K "TooMany") 1 "most" := ⟨R0.gt.g, MANY.o, MANY.f, ⟨_, _, _, MANY.i, MANY.t, INI.1, INI.2⟩⟩
  have x_come := door_come c_come (cal_comeX d_come T TFAR x_needlanding x_needtick)
  have x_many := door_many c_many (cal_how_manyX d_how_many T TFAR x_needlanding x_needtick)
  have x_press := door_press c_press (cal_pressX d_press T x_needlanding x_neednumber)
  have x_round := door_round c_round (cal_comes_roundX d_comes_round T x_needlanding)
  have x_shares := door_shares c_shares (cal_sharesX d_shares T x_needlanding)
  have x_lot := door_lot c_lot (cal_lotX d_lot T x_needasked)
  have x_keeps := door_keeps c_keeping (cal_are_keepingX d_are_keeping T x_needasked)
  have x_islot := door_islot c_islot (cal_is_lotX d_is_lot T x_needasked)
  have x_burning := door_burning (Nat.le_refl _) c_least (cal_least_burningX d_least_burning T x_needlanding x_needfraction)
  have x_best := door_best c_best (cal_best_beginX d_best_begin T TMOST X_NoName XO x_needhouse)
  have x_asked := cal_law_asked d_law_asked T x_come x_press x_many x_round x_shares x_lot x_keeps x_islot x_burning x_best
  have c_refused := cal_law_refused (P := P) (w := w) (base := base) d_law_refused T R0
  have TB0 := TBS _ (List.mem_cons_self ..)
  have c_kin := cal_kin_of (He.glo_ok X G (c.fact 38 (f := .glo "_law_kin_of") rfl)) F_law_kin_of hcode2 TB0 T x_asked c_refused
  have c_bounds := cal_bounds d_law_bounds_refused T c_kin
  have c_bestr := cal_best_refused d_law_best_refused T c_kin
  exact law_good F hcode T c_bags c_take c_stair c_walkers c_kin c_bounds c_bestr
end DL
open PySem PySem.W PySem.Calls PyProof.Rows
theorem PySem.Challenge.cw_stairlamps_k12_who_is_refused_holds : PySem.Challenge.rw_stairlamps_k12_who_is_refused.Holds := by
  w_on; o_law
  refine HandSHeadRun.head_any (r := OpenLaw.row PySem.Challenge.rw_stairlamps_k12_who_is_refused) (q := view (OpenLaw.row PySem.Challenge.rw_stairlamps_k12_who_is_refused).prog [61]) (H := DL.hdH) (ob := DL.hdOb) (M := 6000) (loose := DL.hdNames) (d := HandSHeadRun.topDef (OpenLaw.row PySem.Challenge.rw_stairlamps_k12_who_is_refused).prog 61) (kwd := []) DL.hdOb_eq
    (by kernel_rfl) (fun s => by kernel_rfl) DL.hdRun (by kernel_rfl) (by kernel_rfl) (by kernel_rfl) (by rfl) (by first | assumption | decide +kernel) (by decide +kernel) ⟨rfl, rfl, rfl, rfl, rfl, by decide +kernel⟩ ?hw ?hc
  case hw => w_witness2
  case hc =>
    refine LamX.walk_ofTsE (l := PySem.Challenge.rw_stairlamps_k12_who_is_refused) (n := 63) (k := 14) (x := "script") (CX := fun _ => L2.CX0) rfl (by decide) (by kernel_rfl) ⟨rfl, by decide, by decide⟩ ?F (fun _ _ _ _ _ z => z)
    intro w mg fa h Y G hmg0
    obtain ⟨K, KX, c⟩ := Y
    have hmg : mg ("law" : PySem.Str) = some (.ref fa) := by
      have e : (HandSHeadRun.topDef (OpenLaw.row PySem.Challenge.rw_stairlamps_k12_who_is_refused).prog 61).name = ("law" : PySem.Str) := by kernel_rfl
      rw [← e]
      exact hmg0
    obtain ⟨fd, hb, hF⟩ := DL.hdFacts (P := (PySem.Challenge.rw_stairlamps_k12_who_is_refused).prog) (w := w) KX G hmg c
    have un : ∀ p ∈ DL.hdTf.map (He.cT K), ∃ q ∈ DL.hdTf, p = He.cT K q := fun p hp => by
      obtain ⟨q, hq, e⟩ := List.mem_map.mp hp
      exact ⟨q, hq, e.symm⟩
    refine ⟨K, KX, fd, DL.hdTf.map (He.cT K), DL.spLaw K (He.cT K ("_law_kin_of", none)).2, fun p hp => ?_, fun p hp => ?_, fun p hp => ?_, hb, fun H a ns hl _ hT hS => ⟨a, ns, rfl, hS, hl, hT _ (List.mem_map.mpr ⟨_, List.mem_cons_self .., rfl⟩), fun _ => rfl⟩, fun base KB GB TB => hF base KB GB fun p hp => TB _ (List.mem_map.mpr ⟨p, hp, rfl⟩)⟩
    · obtain ⟨q, hq, rfl⟩ := un p hp; exact c.empty q hq
    · obtain ⟨q, hq, rfl⟩ := un p hp; exact c.out q hq
    · obtain ⟨q, hq, rfl⟩ := un p hp; exact PySem.W.codeHd_of_K KX (c.hd q hq)
#print axioms PySem.Challenge.cw_stairlamps_k12_who_is_refused_holds
