import PyProof.Rows.All
import Wide.All
import OpenK.AllK
import Wide.FinOn
import HandS.ForMost
import HandS.ForExc
import HandS.Wide
import HandS.IsInst
import HandS.TupLen
import HandS.DictTup
import HandS.MakeKwOnly
import HandS.MakeKw
import HandS.Conv
import HandS.TupAny
import HandS.TupMul
import HandS.WideBits
import HandS.Deep
import HandS.More
import KE.GoesEnum
import KE.KDictPairs
import PyProof.StrOps2
import HandS.Style
import HandS.SortRule
import HandS.Replace
import PyProof.ListStr
import HandS.SetFor
import HandS.TupSets
import PyProof.StrWalks
import KE.SortData
import KE.DataMinMax
import HandS.DictComp
import KE.DataFind
import HandS.Strs
import HandS.Exc
import HandS.ExcInit
import HandS.ExcField
import HandS.ExcIs
import HandS.ExcOwn
import HandS.WordsExc
import KE.KExcIs
import KE.KEqDict
import PyProof.InstNe
import HandS.OwnEq
import PySem.Challenge.RW_roundfence_k30_turned_about
set_option Elab.async false
set_option linter.all false
set_option maxRecDepth 100000
set_option maxHeartbeats 4000000
/-! # Data over the hand layer: what a def does, told by data alone -/
namespace DL
open PySem PySem.Spec L2

/-! ## data -/
/-- data, without addresses -/
inductive Da where
  | non | bl (b : Bool) | int (i : Int) | str (x : Str) | tup (ds : List Da) | tupK (ds : List Da) | lst (ds : List Da) | lstK (ds : List Da)
  | dT (kvs : List (List Key × Da)) | dK (kvs : List (Key × Da)) | ins (C : Addr) (fs : List (Str × Da)) | ty (n : String) | adr (a : Addr) | dL (kvs : List (List Key × Da)) | exn (C : Addr) (fs : List (Str × Da))
/-- a value in hand: data that stays, or the k-th thing that may change -/
inductive Rv where
  | sh (d : Da) | rf (k : Nat)
/-- things that may change -/
inductive Res where
  | off | lst (ds : List Da) | dT (kvs : List (List Key × Da)) | dK (kvs : List (Key × Da)) | ins (C : Addr) (fs : List (Str × Da)) | frz (d : Da) | tray (κ n : Nat) | lstR (rs : List Rv) | dKR (kvs : List (Key × Rv)) | exc (dd : Addr) (d : Da)
/-- it holds nothing else of ours -/
def Res.cl : Res → Bool
  | .lstR _ => false | .dKR _ => false | _ => true

def Kp (H H' : Hp) : Prop := ∀ a o, H a = some o → H' a = some o
theorem Kp.refl (H : Hp) : Kp H H := fun _ _ h => h
theorem Kp.trans {H H1 H2 : Hp} (a : Kp H H1) (b : Kp H1 H2) : Kp H H2 := fun x o h => b x o (a x o h)
theorem Kp.new {H : Hp} {p : Addr} {o : HO} (h : H p = none) : Kp H (upd H p o) := fun a u e => by
  rw [upd_ne (ne_of_none e h)]; exact e
theorem Kp.none {H H' : Hp} (k : Kp H H') {p : Addr} (h : H' p = none) : H p = none := by
  cases e : H p with
  | none => rfl
  | some o => rw [k p o e] at h; cases h
theorem Kp.rd {H H' : Hp} (k : Kp H H') {a : Addr} {u : HO} (h : Rd H a u) : Rd H' a u := by
  rcases h with h | ⟨o, h⟩
  · exact .inl (k a _ h)
  · exact .inr ⟨o, k a _ h⟩
theorem Kp.sqL {K : PySem.W.Frag} {H H' : Hp} (k : Kp H H') {a : Addr} {xs : List V} (h : SqL K H a xs) : SqL K H' a xs := by
  rcases h with h | h
  · exact .inl (k.rd h)
  · exact .inr h
theorem Kp.sqT {K : PySem.W.Frag} {H H' : Hp} (k : Kp H H') {a : Addr} {xs : List V} (h : SqT K H a xs) : SqT K H' a xs := by
  rcases h with h | h
  · exact .inl (k.rd h)
  · exact .inr h

/-- a caught exception: of the class at C, its dict at d -/
def xco (a C d : Addr) : HO := .ext fun h => ∃ oe vs, h.get? a = some oe ∧ oe.cls = .ref C ∧ oe.dict = some d ∧ oe.data = .fields vs
mutual
/-- the value v tells the data d -/
inductive Rp (K : PySem.W.Frag) (H : Hp) : V → Da → Prop
  | non : Rp K H .non .non
  | bl (b : Bool) : Rp K H (.bl b) (.bl b)
  | int (i : Int) : Rp K H (.int i) (.int i)
  | str (x : Str) : Rp K H (.str x) (.str x)
  | ty (n : String) : Rp K H (.ty n) (.ty n)
  | adr (a : Addr) : Rp K H (.ref a) (.adr a)
  | tup {a : Addr} {vs : List V} {ds : List Da} : H a = some (.tup vs) → Rps K H vs ds → Rp K H (.ref a) (.tup ds)
  | tupK {a : Addr} {vs : List V} {ds : List Da} : SqT K H a vs → Rps K H vs ds → Rp K H (.ref a) (.tupK ds)
  | lst {a : Addr} {vs : List V} {ds : List Da} : H a = some (.lst vs) → Rps K H vs ds → Rp K H (.ref a) (.lst ds)
  | lstK {a : Addr} {vs : List V} {ds : List Da} : SqL K H a vs → Rps K H vs ds → Rp K H (.ref a) (.lstK ds)
  | dT {a : Addr} {kvs : List (List Key × V)} {ds : List (List Key × Da)} : H a = some (.dT kvs) → RpT K H kvs ds → Rp K H (.ref a) (.dT ds)
  | dK {a : Addr} {kvs : List (Key × V)} {ds : List (Key × Da)} : H a = some (.dK kvs) → RpS K H kvs ds → Rp K H (.ref a) (.dK ds)
  | ins {a C dx : Addr} {fs : List (Str × V)} {ds : List (Str × Da)} : H a = some (.ins C dx fs) → RpF K H fs ds → Rp K H (.ref a) (.ins C ds)
  | dL {a : Addr} {o : Obj} {kvs : List (List Key × V)} {ds : List (List Key × Da)} : H a = some (.frz o (.dT kvs)) → RpT K H kvs ds → Rp K H (.ref a) (.dL ds)
  | exn {a C dx : Addr} {fs : List (Str × V)} {ds : List (Str × Da)} : H a = some (xco a C dx) → H dx = some (.xd fs) → RpF K H fs ds → Rp K H (.ref a) (.exn C ds)
inductive Rps (K : PySem.W.Frag) (H : Hp) : List V → List Da → Prop
  | nil : Rps K H [] []
  | cons {v : V} {d : Da} {vs : List V} {ds : List Da} : Rp K H v d → Rps K H vs ds → Rps K H (v :: vs) (d :: ds)
inductive RpT (K : PySem.W.Frag) (H : Hp) : List (List Key × V) → List (List Key × Da) → Prop
  | nil : RpT K H [] []
  | cons {k : List Key} {v : V} {d : Da} {vs : List (List Key × V)} {ds : List (List Key × Da)} : Rp K H v d → RpT K H vs ds → RpT K H ((k, v) :: vs) ((k, d) :: ds)
inductive RpS (K : PySem.W.Frag) (H : Hp) : List (Key × V) → List (Key × Da) → Prop
  | nil : RpS K H [] []
  | cons {k : Key} {v : V} {d : Da} {vs : List (Key × V)} {ds : List (Key × Da)} : Rp K H v d → RpS K H vs ds → RpS K H ((k, v) :: vs) ((k, d) :: ds)
inductive RpF (K : PySem.W.Frag) (H : Hp) : List (Str × V) → List (Str × Da) → Prop
  | nil : RpF K H [] []
  | cons {k : Str} {v : V} {d : Da} {vs : List (Str × V)} {ds : List (Str × Da)} : Rp K H v d → RpF K H vs ds → RpF K H ((k, v) :: vs) ((k, d) :: ds)
end
section
variable {K : PySem.W.Frag} {H H' : Hp}
mutual
theorem Rp.mono (k : Kp H H') {v : V} {d : Da} (h : Rp K H v d) : Rp K H' v d := by
  cases h with
  | non => exact .non
  | bl b => exact .bl b
  | int i => exact .int i
  | str x => exact .str x
  | ty n => exact .ty n
  | adr a => exact .adr a
  | tup a b => exact .tup (k _ _ a) (Rps.mono k b)
  | tupK a b => exact .tupK (k.sqT a) (Rps.mono k b)
  | lst a b => exact .lst (k _ _ a) (Rps.mono k b)
  | lstK a b => exact .lstK (k.sqL a) (Rps.mono k b)
  | dT a b => exact .dT (k _ _ a) (RpT.mono k b)
  | dK a b => exact .dK (k _ _ a) (RpS.mono k b)
  | ins a b => exact .ins (k _ _ a) (RpF.mono k b)
  | dL a b => exact .dL (k _ _ a) (RpT.mono k b)
  | exn a b c => exact .exn (k _ _ a) (k _ _ b) (RpF.mono k c)
theorem Rps.mono (k : Kp H H') {v : List V} {d : List Da} (h : Rps K H v d) : Rps K H' v d := by
  cases h with
  | nil => exact .nil
  | cons a b => exact .cons (Rp.mono k a) (Rps.mono k b)
theorem RpT.mono (k : Kp H H') {v : List (List Key × V)} {d : List (List Key × Da)} (h : RpT K H v d) : RpT K H' v d := by
  cases h with
  | nil => exact .nil
  | cons a b => exact .cons (Rp.mono k a) (RpT.mono k b)
theorem RpS.mono (k : Kp H H') {v : List (Key × V)} {d : List (Key × Da)} (h : RpS K H v d) : RpS K H' v d := by
  cases h with
  | nil => exact .nil
  | cons a b => exact .cons (Rp.mono k a) (RpS.mono k b)
theorem RpF.mono (k : Kp H H') {v : List (Str × V)} {d : List (Str × Da)} (h : RpF K H v d) : RpF K H' v d := by
  cases h with
  | nil => exact .nil
  | cons a b => exact .cons (Rp.mono k a) (RpF.mono k b)
end
theorem Rps.len : ∀ {vs : List V} {ds : List Da}, Rps K H vs ds → vs.length = ds.length
  | _, _, .nil => rfl
  | _, _, .cons _ t => by rw [List.length_cons, List.length_cons, Rps.len t]
theorem Rps.get : ∀ {vs : List V} {ds : List Da} {i : Nat} {d : Da}, Rps K H vs ds → ds[i]? = some d → ∃ v, vs[i]? = some v ∧ Rp K H v d
  | _, _, _, _, .nil, e => by simp at e
  | _, _, 0, _, .cons r _, e => by simp at e; subst e; exact ⟨_, rfl, r⟩
  | _, _, i + 1, d, .cons _ t, e => by
    obtain ⟨u, h1, h2⟩ := Rps.get (i := i) (d := d) t (by simpa using e)
    exact ⟨u, by simpa using h1, h2⟩
theorem Rps.getV : ∀ {vs : List V} {ds : List Da} {i : Nat} {v : V}, Rps K H vs ds → vs[i]? = some v → ∃ d, ds[i]? = some d ∧ Rp K H v d
  | _, _, _, _, .nil, e => by simp at e
  | _, _, 0, _, .cons r _, e => by simp at e; subst e; exact ⟨_, rfl, r⟩
  | _, _, i + 1, d, .cons _ t, e => by
    obtain ⟨u, h1, h2⟩ := Rps.getV (i := i) (v := d) t (by simpa using e)
    exact ⟨u, by simpa using h1, h2⟩
theorem Rps.app : ∀ {vs ws : List V} {ds es : List Da}, Rps K H vs ds → Rps K H ws es → Rps K H (vs ++ ws) (ds ++ es)
  | _, _, _, _, .nil, s => s
  | _, _, _, _, .cons r t, s => .cons r (Rps.app t s)
theorem Rps.take : ∀ {vs : List V} {ds : List Da} (n : Nat), Rps K H vs ds → Rps K H (vs.take n) (ds.take n)
  | _, _, 0, _ => .nil
  | _, _, _ + 1, .nil => .nil
  | _, _, n + 1, .cons r t => .cons r (Rps.take n t)
theorem Rps.drop : ∀ {vs : List V} {ds : List Da} (n : Nat), Rps K H vs ds → Rps K H (vs.drop n) (ds.drop n)
  | _, _, 0, r => r
  | _, _, _ + 1, .nil => .nil
  | _, _, n + 1, .cons _ t => Rps.drop n t
theorem Rps.set {v : V} {d : Da} (r : Rp K H v d) : ∀ {vs : List V} {ds : List Da} (i : Nat), Rps K H vs ds → Rps K H (vs.set i v) (ds.set i d)
  | _, _, _, .nil => .nil
  | _, _, 0, .cons _ t => .cons r t
  | _, _, i + 1, .cons q t => .cons q (Rps.set r i t)
theorem Rps.one {v : V} {d : Da} (r : Rp K H v d) : Rps K H [v] [d] := .cons r .nil
theorem Rps.ofInts : ∀ ns : List Int, Rps K H (ns.map V.int) (ns.map Da.int)
  | [] => .nil
  | _ :: r => .cons (.int _) (Rps.ofInts r)
theorem Rps.ofStrs : ∀ ns : List Str, Rps K H (ns.map V.str) (ns.map Da.str)
  | [] => .nil
  | _ :: r => .cons (.str _) (Rps.ofStrs r)
theorem Rps.toInts : ∀ {vs : List V} {ns : List Int}, Rps K H vs (ns.map Da.int) → vs = ns.map V.int
  | [], [], _ => rfl
  | _, n :: ns, .cons (.int _) t => by rw [Rps.toInts t]; rfl
theorem Rps.toStrs : ∀ {vs : List V} {ns : List Str}, Rps K H vs (ns.map Da.str) → vs = ns.map V.str
  | [], [], _ => rfl
  | _, n :: ns, .cons (.str _) t => by rw [Rps.toStrs t]; rfl
end

/-! ## where things stand -/
/-- H0: what is shared and stays; Fr: what is not ours and stays; own: whose (the k-th thing's) an address is -/
structure Tw where
  H0 : Hp
  Fr : Hp
  own : Addr → Option Nat
  n : Nat
  ad : Nat → Addr
structure Tw.le (T T' : Tw) : Prop where
  h0 : Kp T.H0 T'.H0
  fr : T'.Fr = T.Fr
  n : T.n ≤ T'.n
  ad : ∀ k, k < T.n → T'.ad k = T.ad k
theorem Tw.le.refl (T : Tw) : T.le T := ⟨.refl _, rfl, Nat.le_refl _, fun _ _ => rfl⟩
theorem Tw.le.trans {T T1 T2 : Tw} (a : T.le T1) (b : T1.le T2) : T.le T2 :=
  ⟨a.h0.trans b.h0, b.fr.trans a.fr, Nat.le_trans a.n b.n, fun k hk => (b.ad k (Nat.lt_of_lt_of_le hk a.n)).trans (a.ad k hk)⟩

/-- the drawing things' own forms: what stands at t, known to be sound; n tells which kind -/
def TrayOk (own : Addr → Prop) (H : Hp) (t : Addr) (b : Nat) : Nat → Prop
  | 0 => ∃ (g : Addr) (gs : List Int) (n f u : Int), own g ∧ g ≠ t ∧ H t = some (.lst [.ref g, .int n, .int f, .int u]) ∧ H g = some (.lst (gs.map V.int)) ∧ gs.length ≤ 63 ∧ 0 ≤ f ∧ f < 2 ^ 61 ∧ 0 ≤ u ∧ u ≤ b
  | 1 => ∃ (g : Addr) (gs : List Int) (f u : Int), own g ∧ g ≠ t ∧ H t = some (.lst [.ref g, .int f, .int u]) ∧ H g = some (.lst (gs.map V.int)) ∧ gs.length ≤ 63 ∧ 0 ≤ f ∧ f < 2 ^ 61 ∧ 0 ≤ u ∧ u ≤ b
  | 2 => ∃ (a f u : Int), H t = some (.lst [.int a, .int f, .int u]) ∧ 0 ≤ f ∧ f < 2 ^ 62 ∧ 0 ≤ u ∧ u ≤ b
  | 3 => ∃ (g : Addr) (gs : List Int) (n f u : Int), own g ∧ g ≠ t ∧ H t = some (.dK [(.inr "great", .ref g), (.inr "left", .int n), (.inr "turn", .int u), (.inr "fold", .int f)]) ∧ H g = some (.lst (gs.map V.int)) ∧ gs.length ≤ 63 ∧ 0 ≤ f ∧ f < 2 ^ 61 ∧ 0 ≤ u ∧ u ≤ b
  | _ => True

def RpV (K : PySem.W.Frag) (T : Tw) (v : V) : Rv → Prop
  | .sh d => Rp K T.H0 v d
  | .rf k => k < T.n ∧ v = .ref (T.ad k)
inductive RpVs (K : PySem.W.Frag) (T : Tw) : List V → List Rv → Prop
  | nil : RpVs K T [] []
  | cons {v : V} {r : Rv} {vs : List V} {rs : List Rv} : RpV K T v r → RpVs K T vs rs → RpVs K T (v :: vs) (r :: rs)

inductive RpK (K : PySem.W.Frag) (T : Tw) : List (Key × V) → List (Key × Rv) → Prop
  | nil : RpK K T [] []
  | cons {k : Key} {v : V} {r : Rv} {vs : List (Key × V)} {rs : List (Key × Rv)} : RpV K T v r → RpK K T vs rs → RpK K T ((k, v) :: vs) ((k, r) :: rs)

def ResOk (K : PySem.W.Frag) (T : Tw) (H : Hp) (k : Nat) : Res → Prop
  | .off => True
  | .lst ds => T.own (T.ad k) = some k ∧ ∃ vs, H (T.ad k) = some (.lst vs) ∧ Rps K T.H0 vs ds
  | .dT ds => T.own (T.ad k) = some k ∧ ∃ kvs, H (T.ad k) = some (.dT kvs) ∧ RpT K T.H0 kvs ds
  | .dK ds => T.own (T.ad k) = some k ∧ ∃ kvs, H (T.ad k) = some (.dK kvs) ∧ RpS K T.H0 kvs ds
  | .ins C ds => T.own (T.ad k) = some k ∧ ∃ dx fs, T.own dx = some k ∧ H dx = some (.own (T.ad k)) ∧ H (T.ad k) = some (.ins C dx fs) ∧ RpF K T.H0 fs ds
  | .frz d => Rp K T.H0 (.ref (T.ad k)) d
  | .tray κ n => T.own (T.ad k) = some k ∧ TrayOk (fun a => T.own a = some k) H (T.ad k) n κ
  | .lstR ds => T.own (T.ad k) = some k ∧ ∃ vs, H (T.ad k) = some (.lst vs) ∧ RpVs K T vs ds
  | .dKR ds => T.own (T.ad k) = some k ∧ ∃ vs, H (T.ad k) = some (.dK vs) ∧ RpK K T vs ds
  | .exc dd d => ∃ (fs : List (Str × V)) (v : V), T.H0 dd = some (.xd fs) ∧ fs.lookup ("what" : Str) = some v ∧ Rp K T.H0 v d

structure RepH (K : PySem.W.Frag) (T : Tw) (rs : List Res) (H : Hp) : Prop where
  n : rs.length = T.n
  h0 : Kp T.H0 H
  fr : Kp T.Fr H
  dj : ∀ a k, T.own a = some k → T.H0 a = none ∧ T.Fr a = none ∧ H a ≠ none
  df : ∀ a o, T.H0 a = some o → T.Fr a = none
  rs : ∀ k r, rs[k]? = some r → ResOk K T H k r
  tu : ∀ a xs, H a = some (.tup xs) → T.H0 a = some (.tup xs)

section
variable {K : PySem.W.Frag} {T T' : Tw} {H H' : Hp} {rs : List Res} {p : Addr} {o : HO}
theorem RpV.le (l : T.le T') {v : V} : ∀ {r : Rv}, RpV K T v r → RpV K T' v r
  | .sh d, h => Rp.mono l.h0 h
  | .rf k, ⟨h1, h2⟩ => ⟨Nat.lt_of_lt_of_le h1 l.n, by rw [l.ad k h1]; exact h2⟩
theorem RpVs.le (l : T.le T') : ∀ {vs : List V} {r : List Rv}, RpVs K T vs r → RpVs K T' vs r
  | _, _, .nil => .nil
  | _, _, .cons h t => .cons (RpV.le l h) (RpVs.le l t)
theorem RpK.le (l : T.le T') : ∀ {vs : List (Key × V)} {r : List (Key × Rv)}, RpK K T vs r → RpK K T' vs r
  | _, _, .nil => .nil
  | _, _, .cons h t => .cons (RpV.le l h) (RpK.le l t)
theorem RpVs.len : ∀ {vs : List V} {r : List Rv}, RpVs K T vs r → vs.length = r.length
  | _, _, .nil => rfl
  | _, _, .cons h t => by rw [List.length_cons, List.length_cons, RpVs.len t]
theorem TrayOk.keep {own own' : Addr → Prop} {t : Addr} {b n : Nat} (h : TrayOk own H t b n) (ht : own t) (hs : ∀ a, own a → own' a ∧ ∀ o, H a = some o → H' a = some o) : TrayOk own' H' t b n := by
  match n, h with
  | 0, ⟨g, gs, n, f, u, h1, h2, h3, h4, h5⟩ => exact ⟨g, gs, n, f, u, (hs g h1).1, h2, (hs t ht).2 _ h3, (hs g h1).2 _ h4, h5⟩
  | 1, ⟨g, gs, f, u, h1, h2, h3, h4, h5⟩ => exact ⟨g, gs, f, u, (hs g h1).1, h2, (hs t ht).2 _ h3, (hs g h1).2 _ h4, h5⟩
  | 2, ⟨a, f, u, h3, h5⟩ => exact ⟨a, f, u, (hs t ht).2 _ h3, h5⟩
  | 3, ⟨g, gs, n, f, u, h1, h2, h3, h4, h5⟩ => exact ⟨g, gs, n, f, u, (hs g h1).1, h2, (hs t ht).2 _ h3, (hs g h1).2 _ h4, h5⟩
  | n + 4, _ => trivial
theorem ResOk.keep {k : Nat} {r : Res} (l : T.le T') (hk : k < T.n) (hs : ∀ a, T.own a = some k → T'.own a = some k ∧ ∀ o, H a = some o → H' a = some o) (h : ResOk K T H k r) : ResOk K T' H' k r := by
  have ad : T'.ad k = T.ad k := l.ad k hk
  have h0 := l.h0
  cases r with
  | off => trivial
  | lst ds =>
    obtain ⟨h1, vs, h2, h3⟩ := h
    show T'.own (T'.ad k) = some k ∧ ∃ vs, H' (T'.ad k) = some (.lst vs) ∧ Rps K T'.H0 vs ds
    rw [ad]
    exact ⟨(hs _ h1).1, vs, (hs _ h1).2 _ h2, h3.mono h0⟩
  | dT ds =>
    obtain ⟨h1, vs, h2, h3⟩ := h
    show T'.own (T'.ad k) = some k ∧ ∃ vs, H' (T'.ad k) = some (.dT vs) ∧ RpT K T'.H0 vs ds
    rw [ad]
    exact ⟨(hs _ h1).1, vs, (hs _ h1).2 _ h2, h3.mono h0⟩
  | dK ds =>
    obtain ⟨h1, vs, h2, h3⟩ := h
    show T'.own (T'.ad k) = some k ∧ ∃ vs, H' (T'.ad k) = some (.dK vs) ∧ RpS K T'.H0 vs ds
    rw [ad]
    exact ⟨(hs _ h1).1, vs, (hs _ h1).2 _ h2, h3.mono h0⟩
  | ins C ds =>
    obtain ⟨h1, dx, fs, h2, h3, h4, h5⟩ := h
    show T'.own (T'.ad k) = some k ∧ ∃ dx fs, T'.own dx = some k ∧ H' dx = some (.own (T'.ad k)) ∧ H' (T'.ad k) = some (.ins C dx fs) ∧ RpF K T'.H0 fs ds
    rw [ad]
    exact ⟨(hs _ h1).1, dx, fs, (hs _ h2).1, (hs _ h2).2 _ h3, (hs _ h1).2 _ h4, h5.mono h0⟩
  | frz d =>
    show Rp K T'.H0 (.ref (T'.ad k)) d
    rw [ad]
    exact Rp.mono h0 h
  | tray κ n =>
    obtain ⟨h1, h2⟩ := h
    show T'.own (T'.ad k) = some k ∧ TrayOk (fun a => T'.own a = some k) H' (T'.ad k) n κ
    rw [ad]
    exact ⟨(hs _ h1).1, h2.keep h1 hs⟩
  | lstR ds =>
    obtain ⟨h1, vs, h2, h3⟩ := h
    show T'.own (T'.ad k) = some k ∧ ∃ vs, H' (T'.ad k) = some (.lst vs) ∧ RpVs K T' vs ds
    rw [ad]
    exact ⟨(hs _ h1).1, vs, (hs _ h1).2 _ h2, h3.le l⟩
  | dKR ds =>
    obtain ⟨h1, vs, h2, h3⟩ := h
    show T'.own (T'.ad k) = some k ∧ ∃ vs, H' (T'.ad k) = some (.dK vs) ∧ RpK K T' vs ds
    rw [ad]
    exact ⟨(hs _ h1).1, vs, (hs _ h1).2 _ h2, h3.le l⟩
  | exc dd d =>
    obtain ⟨fs, v, h1, h2, h3⟩ := h
    exact ⟨fs, v, h0 _ _ h1, h2, h3.mono h0⟩
theorem RepH.lt (R : RepH K T rs H) {k : Nat} {r : Res} (e : rs[k]? = some r) : k < T.n := by rw [← R.n]; exact (List.getElem?_eq_some_iff.mp e).1

/-- a new shared thing is laid -/
theorem RepH.share (R : RepH K T rs H) (hp : H p = none) :
    RepH K { T with H0 := upd T.H0 p o } rs (upd H p o) ∧ T.le { T with H0 := upd T.H0 p o } := by
  have e0 : T.H0 p = none := R.h0.none hp
  have k0 : Kp T.H0 (upd T.H0 p o) := .new e0
  have le0 : T.le { T with H0 := upd T.H0 p o } := ⟨k0, rfl, Nat.le_refl _, fun _ _ => rfl⟩
  refine ⟨⟨R.n, fun a u e => ?_, R.fr.trans (.new hp), fun a k e => ?_, fun a u e => ?_, fun k r e => ?_, fun a xs e => ?_⟩, le0⟩
  rotate_left 4
  · show upd T.H0 p o a = _
    by_cases ha : a = p
    · subst ha
      rw [upd_same] at e ⊢; exact e
    · rw [upd_ne ha] at e ⊢; exact R.tu a xs e
  · have e : upd T.H0 p o a = some u := e
    by_cases ha : a = p
    · subst ha
      rw [upd_same] at e
      rw [upd_same]; exact e
    · rw [upd_ne ha] at e
      rw [upd_ne ha]; exact R.h0 a u e
  · obtain ⟨h1, h2, h3⟩ := R.dj a k e
    have ha : a ≠ p := fun z => h3 (by rw [z]; exact hp)
    exact ⟨(upd_ne ha).trans h1, h2, by rw [upd_ne ha]; exact h3⟩
  · have e : upd T.H0 p o a = some u := e
    by_cases ha : a = p
    · subst ha; exact R.fr.none hp
    · rw [upd_ne ha] at e
      exact R.df a u e
  · refine (R.rs k r e).keep (T' := { T with H0 := upd T.H0 p o }) le0 (R.lt e) fun a ha => ⟨ha, fun u hu => ?_⟩
    rw [upd_ne (ne_of_none hu hp)]; exact hu
/-- .. and given nothing to the shared part (a thing that nobody reads) -/
theorem RepH.drop (R : RepH K T rs H) (hp : H p = none) (ho : ∀ xs, o ≠ .tup xs) : RepH K T rs (upd H p o) :=
  ⟨R.n, R.h0.trans (.new hp), R.fr.trans (.new hp), fun a k e => let ⟨h1, h2, h3⟩ := R.dj a k e; ⟨h1, h2, by rw [upd_ne (fun z => h3 (by rw [z]; exact hp))]; exact h3⟩, R.df, fun k r e =>
    (R.rs k r e).keep (.refl _) (R.lt e) fun a ha => ⟨ha, fun u hu => by rw [upd_ne (ne_of_none hu hp)]; exact hu⟩, fun a xs e => by
    by_cases ha : a = p
    · subst ha
      rw [upd_same] at e; exact absurd (Option.some.inj e) (ho xs)
    · rw [upd_ne ha] at e; exact R.tu a xs e⟩
/-- the world behind a thing made -/
def Tw.more (T : Tw) (p : Addr) : Tw := { T with own := fun a => if a = p then some T.n else T.own a, n := T.n + 1, ad := fun k => if k = T.n then p else T.ad k }
theorem Tw.le_more (T : Tw) (p : Addr) : T.le (T.more p) := ⟨.refl _, rfl, Nat.le_succ _, fun k hk => if_neg (Nat.ne_of_lt hk)⟩
/-- a new thing that may change -/
theorem RepH.make (R : RepH K T rs H) (hp : H p = none) {r : Res} (hr : ResOk K (T.more p) (upd H p o) T.n r) (ho : ∀ xs, o ≠ .tup xs := by intro _ z; cases z) : RepH K (T.more p) (rs ++ [r]) (upd H p o) := by
  refine ⟨by rw [List.length_append, R.n]; rfl, R.h0.trans (.new hp), R.fr.trans (.new hp), fun a k e => ?_, R.df, fun k q e => ?_, fun a xs e => ?_⟩
  rotate_left 2
  · by_cases ha : a = p
    · subst ha
      rw [upd_same] at e; exact absurd (Option.some.inj e) (ho xs)
    · rw [upd_ne ha] at e; exact R.tu a xs e
  · by_cases ha : a = p
    · subst ha
      exact ⟨R.h0.none hp, R.fr.none hp, by rw [upd_same]; exact fun z => nomatch z⟩
    · have e' : T.own a = some k := by rw [← e]; exact (if_neg ha).symm
      obtain ⟨h1, h2, h3⟩ := R.dj a k e'
      exact ⟨h1, h2, by rw [upd_ne ha]; exact h3⟩
  · by_cases hk : k < rs.length
    · rw [List.getElem?_append_left hk] at e
      have ne : k ≠ T.n := by rw [← R.n]; exact Nat.ne_of_lt hk
      refine (R.rs k q e).keep (T := T) (T' := T.more p) (T.le_more p) (R.lt e) fun a ha => ⟨?_, fun u hu => ?_⟩
      · have h3 := (R.dj a k ha).2.2
        show (if a = p then some T.n else T.own a) = some k
        rw [if_neg (fun z => h3 (by rw [z]; exact hp))]; exact ha
      · rw [upd_ne (ne_of_none hu hp)]; exact hu
    · have hk2 : k = rs.length := by
        have := (List.getElem?_eq_some_iff.mp e).1
        rw [List.length_append, List.length_singleton] at this
        omega
      subst hk2
      rw [List.getElem?_append_right (Nat.le_refl _), Nat.sub_self] at e
      have e' : r = q := Option.some.inj e
      rw [← e', R.n]; exact hr
/-- a thing of ours is written -/
theorem RepH.write {k : Nat} {r' : Res} (R : RepH K T rs H) (hp : T.own p = some k) (hr : ResOk K T (upd H p o) k r') (hk : k < rs.length) (hno : ∀ xs, o ≠ .tup xs := by intro _ z; cases z) : RepH K T (rs.set k r') (upd H p o) := by
  obtain ⟨d1, d2, d3⟩ := R.dj p k hp
  refine ⟨by rw [List.length_set]; exact R.n, fun a u e => ?_, fun a u e => ?_, fun a j e => ?_, R.df, fun j q e => ?_, fun a xs e => ?_⟩
  rotate_left 4
  · by_cases ha : a = p
    · subst ha
      rw [upd_same] at e; exact absurd (Option.some.inj e) (hno xs)
    · rw [upd_ne ha] at e; exact R.tu a xs e
  · rw [upd_ne (ne_of_none e d1)]; exact R.h0 a u e
  · rw [upd_ne (ne_of_none e d2)]; exact R.fr a u e
  · obtain ⟨h1, h2, h3⟩ := R.dj a j e
    refine ⟨h1, h2, ?_⟩
    by_cases ha : a = p
    · subst ha; rw [upd_same]; exact fun z => nomatch z
    · rw [upd_ne ha]; exact h3
  · by_cases hj : k = j
    · subst hj
      rw [List.getElem?_set_self hk] at e
      cases e; exact hr
    · rw [List.getElem?_set_ne hj] at e
      refine (R.rs j q e).keep (.refl _) (R.lt e) fun a ha => ⟨ha, fun u hu => ?_⟩
      rw [upd_ne (fun z => hj (by rw [z] at ha; rw [ha] at hp; exact (Option.some.inj hp).symm))]; exact hu
/-- a list of ours stays as it is from now on -/
def Tw.freeze (T : Tw) (p : Addr) (o : HO) : Tw := { T with H0 := upd T.H0 p o, own := fun a => if a = p then none else T.own a }
theorem RepH.freeze {k : Nat} {ds : List Da} (R : RepH K T rs H) (h : rs[k]? = some (.lst ds)) : ∃ T', T.le T' ∧ RepH K T' (rs.set k (.frz (.lst ds))) H := by
  obtain ⟨h1, vs, h2, h3⟩ := R.rs k _ h
  obtain ⟨d1, d2, d3⟩ := R.dj _ _ h1
  have hk : k < rs.length := (List.getElem?_eq_some_iff.mp h).1
  have k0 : Kp T.H0 (upd T.H0 (T.ad k) (.lst vs)) := .new d1
  have le0 : T.le (T.freeze (T.ad k) (.lst vs)) := ⟨k0, rfl, Nat.le_refl _, fun _ _ => rfl⟩
  refine ⟨T.freeze (T.ad k) (.lst vs), le0, by rw [List.length_set]; exact R.n, fun a u e => ?_, R.fr, fun a j e => ?_, fun a u e => ?_, fun j q e => ?_, fun a xs e => ?_⟩
  rotate_left 4
  · have ha : a ≠ T.ad k := fun z => by rw [z, h2] at e; cases e
    show upd T.H0 (T.ad k) _ a = _
    rw [upd_ne ha]; exact R.tu a xs e
  · by_cases ha : a = T.ad k
    · subst ha
      rw [show (T.freeze (T.ad k) (.lst vs)).H0 (T.ad k) = some (.lst vs) from upd_same] at e
      cases e; exact h2
    · rw [show (T.freeze (T.ad k) (.lst vs)).H0 a = T.H0 a from upd_ne ha] at e
      exact R.h0 a u e
  · by_cases ha : a = T.ad k
    · rw [show (T.freeze (T.ad k) (.lst vs)).own a = none from if_pos ha] at e; cases e
    · rw [show (T.freeze (T.ad k) (.lst vs)).own a = T.own a from if_neg ha] at e
      obtain ⟨q1, q2, q3⟩ := R.dj a j e
      exact ⟨(upd_ne ha).trans q1, q2, q3⟩
  · by_cases ha : a = T.ad k
    · subst ha; exact d2
    · rw [show (T.freeze (T.ad k) (.lst vs)).H0 a = T.H0 a from upd_ne ha] at e
      exact R.df a u e
  · by_cases hj : k = j
    · subst hj
      rw [List.getElem?_set_self hk] at e
      cases e
      exact Rp.lst upd_same (h3.mono k0)
    · rw [List.getElem?_set_ne hj] at e
      refine (R.rs j q e).keep (T' := T.freeze (T.ad k) (.lst vs)) le0 (R.lt e) fun a ha => ⟨?_, fun u hu => hu⟩
      show (if a = T.ad k then none else T.own a) = some j
      rw [if_neg (fun z => hj (by rw [z] at ha; rw [ha] at h1; exact (Option.some.inj h1).symm))]; exact ha
end

/-! ## views: what may be read -/
inductive Vw (rs : List Res) : Rv → Da → Prop
  | sh (d : Da) : Vw rs (.sh d) d
  | lst {k : Nat} {ds : List Da} : rs[k]? = some (.lst ds) → Vw rs (.rf k) (.lst ds)
  | dT {k : Nat} {ds : List (List Key × Da)} : rs[k]? = some (.dT ds) → Vw rs (.rf k) (.dT ds)
  | dK {k : Nat} {ds : List (Key × Da)} : rs[k]? = some (.dK ds) → Vw rs (.rf k) (.dK ds)
  | frz {k : Nat} {d : Da} : rs[k]? = some (.frz d) → Vw rs (.rf k) d
theorem Vw.rp {K : PySem.W.Frag} {T : Tw} {rs : List Res} {H : Hp} {v : V} {r : Rv} {d : Da} (w : Vw rs r d) (R : RepH K T rs H) (h : RpV K T v r) : Rp K H v d := by
  cases w with
  | sh d => exact Rp.mono R.h0 h
  | lst e =>
    obtain ⟨_, h2⟩ := h
    obtain ⟨_, vs, q2, q3⟩ := R.rs _ _ e
    rw [h2]; exact .lst q2 (q3.mono R.h0)
  | dT e =>
    obtain ⟨_, h2⟩ := h
    obtain ⟨_, vs, q2, q3⟩ := R.rs _ _ e
    rw [h2]; exact .dT q2 (q3.mono R.h0)
  | dK e =>
    obtain ⟨_, h2⟩ := h
    obtain ⟨_, vs, q2, q3⟩ := R.rs _ _ e
    rw [h2]; exact .dK q2 (q3.mono R.h0)
  | frz e =>
    obtain ⟨_, h2⟩ := h
    have q := R.rs _ _ e
    rw [h2]; exact Rp.mono R.h0 q

/-! ## the judgements -/
abbrev Sl := List (Option Rv)
structure SlOk (K : PySem.W.Frag) (T : Tw) (sl : Sl) (σ : St) : Prop where
  len : sl.length = σ.length
  get : ∀ (i : Nat) (r : Rv), sl[i]? = some (some r) → ∃ v, σ[i]? = some (some v) ∧ RpV K T v r
theorem SlOk.le {K : PySem.W.Frag} {T T' : Tw} {sl : Sl} {σ : St} (l : T.le T') (h : SlOk K T sl σ) : SlOk K T' sl σ :=
  ⟨h.len, fun i r e => let ⟨v, a, b⟩ := h.get i r e; ⟨v, a, b.le l⟩⟩
theorem SlOk.set {K : PySem.W.Frag} {T : Tw} {sl : Sl} {σ : St} (h : SlOk K T sl σ) (i : Nat) {v : V} {r : Rv} (q : RpV K T v r) : SlOk K T (sl.set i (some r)) (σ.set i (some v)) := by
  refine ⟨by rw [List.length_set, List.length_set]; exact h.len, fun j r' e => ?_⟩
  by_cases hj : i = j
  · subst hj
    by_cases hl : i < sl.length
    · rw [List.getElem?_set_self hl] at e
      cases e
      rw [List.getElem?_set_self (by rw [← h.len]; exact hl)]
      exact ⟨v, rfl, q⟩
    · rw [List.getElem?_eq_none (by rw [List.length_set]; omega)] at e; cases e
  · rw [List.getElem?_set_ne hj] at e
    rw [List.getElem?_set_ne hj]
    exact h.get j r' e
/-- forgetting slots -/
def Sle (sl sl' : Sl) : Prop := sl'.length = sl.length ∧ ∀ (i : Nat) (r : Rv), sl'[i]? = some (some r) → sl[i]? = some (some r)
theorem SlOk.weak {K : PySem.W.Frag} {T : Tw} {sl sl' : Sl} {σ : St} (h : SlOk K T sl σ) (w : Sle sl sl') : SlOk K T sl' σ := ⟨w.1.trans h.len, fun i r e => h.get i r (w.2 i r e)⟩

abbrev EQ := Rv → List Res → Prop
abbrev AQ := List Rv → List Res → Prop
abbrev TQ := Bool → List Res → Prop
def EPost (K : PySem.W.Frag) (T : Tw) (Q : EQ) : VK := fun v H' => ∃ T' rs' r, T.le T' ∧ RepH K T' rs' H' ∧ RpV K T' v r ∧ Q r rs'
def APost (K : PySem.W.Frag) (T : Tw) (Q : AQ) : List V → Hp → Prop := fun vs H' => ∃ T' rs' r, T.le T' ∧ RepH K T' rs' H' ∧ RpVs K T' vs r ∧ Q r rs'
def TPost (K : PySem.W.Frag) (T : Tw) (Q : TQ) : Bool → Hp → Prop := fun b H' => ∃ T' rs', T.le T' ∧ RepH K T' rs' H' ∧ Q b rs'
theorem EPost.le {K : PySem.W.Frag} {T T' : Tw} {Q : EQ} {v : V} {H : Hp} (l : T.le T') (h : EPost K T' Q v H) : EPost K T Q v H := by
  obtain ⟨T2, rs2, r, a, b, c, d⟩ := h
  exact ⟨T2, rs2, r, l.trans a, b, c, d⟩
theorem APost.le {K : PySem.W.Frag} {T T' : Tw} {Q : AQ} {v : List V} {H : Hp} (l : T.le T') (h : APost K T' Q v H) : APost K T Q v H := by
  obtain ⟨T2, rs2, r, a, b, c, d⟩ := h
  exact ⟨T2, rs2, r, l.trans a, b, c, d⟩
theorem TPost.le {K : PySem.W.Frag} {T T' : Tw} {Q : TQ} {v : Bool} {H : Hp} (l : T.le T') (h : TPost K T' Q v H) : TPost K T Q v H := by
  obtain ⟨T2, rs2, a, b, c⟩ := h
  exact ⟨T2, rs2, l.trans a, b, c⟩

section
variable (X : Cx)
/-- readings that ask for the run itself -/
def teS (e : Expr) : TE := fun σ H Q => ∀ (pins : List (Addr × Obj)) (s : Shared), Inv X pins σ H s → wpAny (model X.prog X.w) X.A (eval e X.env) (EP X pins σ Q) X.xe s
def ttS (e : Expr) : TT := fun σ H Q => ∀ (pins : List (Addr × Obj)) (s : Shared), Inv X pins σ H s → wpAny (model X.prog X.w) X.A (isTrue e X.env (eval e X.env)) (TP X pins σ Q) X.xe s
def taS (es : List Expr) : TA := fun σ H Q => ∀ (pos : Pos) (pins : List (Addr × Obj)) (s : Shared), Inv X pins σ H s → wpAny (model X.prog X.w) X.A (spliced (backTo pos (starEach es X.env))) (AP X pins σ Q) X.xe s
def tsS (st : Stmt) : TS := fun D σ H => ∀ (pins : List (Addr × Obj)) (s : Shared), Inv X pins σ H s → wpAny (model X.prog X.w) X.A (exec st X.env) (SP X pins D) X.xe s
def tssS (st : List Stmt) : TS := fun D σ H => ∀ (pins : List (Addr × Obj)) (s : Shared), Inv X pins σ H s → wpAny (model X.prog X.w) X.A (execs st X.env) (SP X pins D) X.xe s
def opS (f : Value → Value → Sem Value) : R2 := fun x y H Q => ∀ (pins : List (Addr × Obj)) (s : Shared) (σ : St) (v u : Value), Inv X pins σ H s → RelV x v → RelV y u → wpAny (model X.prog X.w) X.A (f v u) (EP X pins σ Q) X.xe s
def unS (f : Value → Sem Value) : V → Hp → VK → Prop := fun x H Q => ∀ (pins : List (Addr × Obj)) (s : Shared) (σ : St) (v : Value), Inv X pins σ H s → RelV x v → wpAny (model X.prog X.w) X.A (f v) (EP X pins σ Q) X.xe s
def caS (f : Value) : List V → Hp → VK → Prop := fun xs H Q => ∀ (pins : List (Addr × Obj)) (s : Shared) (σ : St) (us : List Value), Inv X pins σ H s → Vals xs us → wpAny (model X.prog X.w) X.A (call f us) (EP X pins σ Q) X.xe s
end
section
variable {X : Cx} {e : Expr} {es : List Expr} {st : Stmt} {sts : List Stmt} {σ : St} {H : Hp}
theorem pe_S : PE X e (teS X e) := ⟨fun pins s _ _ _ I h => h pins s I⟩
theorem pt_S : PT X e (ttS X e) := ⟨fun pins s _ _ _ I h => h pins s I⟩
theorem pa_S : PA X es (taS X es) := ⟨fun pos pins s _ _ _ I h => h pos pins s I⟩
theorem ps_S : PS X st (tsS X st) := ⟨fun pins s _ _ _ I h => h pins s I⟩
theorem pss_S : PSs X sts (tssS X sts) := ⟨fun pins s _ _ _ I h => h pins s I⟩
theorem op_S {f : Value → Value → Sem Value} : OpR X f (opS X f) := fun pins s σ _ _ _ v u _ I rx ry h => h pins s σ v u I rx ry
theorem un_S {f : Value → Sem Value} : UnR X f (unS X f) := fun pins s σ _ _ v _ I rx h => h pins s σ v I rx
theorem ca_S {f : Value} : CallR X f (caS X f) := fun pins s σ _ _ us _ I r h => h pins s σ us I r
theorem teS.mono {P Q : VK} (h : teS X e σ H P) (k : ∀ v H', P v H' → Q v H') : teS X e σ H Q := fun pins s I => thn (h pins s I) fun _ _ ⟨v, H', a, b, c⟩ => ⟨v, H', a, b, k v H' c⟩
theorem ttS.mono {P Q : Bool → Hp → Prop} (h : ttS X e σ H P) (k : ∀ v H', P v H' → Q v H') : ttS X e σ H Q := fun pins s I => thn (h pins s I) fun b _ ⟨H', a, c⟩ => ⟨H', a, k b H' c⟩
theorem taS.mono {P Q : List V → Hp → Prop} (h : taS X es σ H P) (k : ∀ v H', P v H' → Q v H') : taS X es σ H Q := fun pos pins s I => thn (h pos pins s I) fun _ _ ⟨v, H', a, b, c⟩ => ⟨v, H', a, b, k v H' c⟩
structure DLe (D D' : Ends) : Prop where
  nx : ∀ σ H, D.nx σ H → D'.nx σ H
  rt : ∀ v H, D.rt v H → D'.rt v H
  bk : ∀ σ H, D.bk σ H → D'.bk σ H
  ct : ∀ σ H, D.ct σ H → D'.ct σ H
theorem SP.le {pins : List (Addr × Obj)} {D D' : Ends} (l : DLe D D') {f : Flow} {s' : Shared} (h : SP X pins D f s') : SP X pins D' f s' := by
  cases f with
  | next => obtain ⟨σ', H', I, q⟩ := h; exact ⟨σ', H', I, l.nx _ _ q⟩
  | brk => obtain ⟨σ', H', I, q⟩ := h; exact ⟨σ', H', I, l.bk _ _ q⟩
  | cont => obtain ⟨σ', H', I, q⟩ := h; exact ⟨σ', H', I, l.ct _ _ q⟩
  | ret u => obtain ⟨v, σ', H', I, r, q⟩ := h; exact ⟨v, σ', H', I, r, l.rt _ _ q⟩
theorem tsS.mono {D D' : Ends} (h : tsS X st D σ H) (l : DLe D D') : tsS X st D' σ H := fun pins s I => thn (h pins s I) fun _ _ q => SP.le l q
theorem tssS.mono {D D' : Ends} (h : tssS X sts D σ H) (l : DLe D D') : tssS X sts D' σ H := fun pins s I => thn (h pins s I) fun _ _ q => SP.le l q
end

/-- behind a statement -/
structure Out where
  nx : Sl → List Res → Prop
  rt : EQ
  bk : Sl → List Res → Prop := fun _ _ => False
  ct : Sl → List Res → Prop := fun _ _ => False
def SPost (K : PySem.W.Frag) (T : Tw) (Q : Sl → List Res → Prop) : St → Hp → Prop := fun σ' H' => ∃ T' sl' rs', T.le T' ∧ RepH K T' rs' H' ∧ SlOk K T' sl' σ' ∧ Q sl' rs'
theorem SPost.le {K : PySem.W.Frag} {T T' : Tw} {Q : Sl → List Res → Prop} {v : St} {H : Hp} (l : T.le T') (h : SPost K T' Q v H) : SPost K T Q v H := by
  obtain ⟨T2, sl2, rs2, a, b, c, d⟩ := h
  exact ⟨T2, sl2, rs2, l.trans a, b, c, d⟩
def dof (K : PySem.W.Frag) (T : Tw) (R : Out) : Ends := { nx := SPost K T R.nx, rt := EPost K T R.rt, bk := SPost K T R.bk, ct := SPost K T R.ct }
theorem dof.le {K : PySem.W.Frag} {T T' : Tw} (l : T.le T') (R : Out) : DLe (dof K T' R) (dof K T R) := ⟨fun _ _ q => q.le l, fun _ _ q => q.le l, fun _ _ q => q.le l, fun _ _ q => q.le l⟩

section
variable (X : Cx) (sl : Sl)
structure EW (e : Expr) (rs : List Res) (Q : EQ) : Prop where
  go : ∀ T σ H, RepH X.K T rs H → SlOk X.K T sl σ → teS X e σ H (EPost X.K T Q)
structure AW (es : List Expr) (rs : List Res) (Q : AQ) : Prop where
  go : ∀ T σ H, RepH X.K T rs H → SlOk X.K T sl σ → taS X es σ H (APost X.K T Q)
structure TW (e : Expr) (rs : List Res) (Q : TQ) : Prop where
  go : ∀ T σ H, RepH X.K T rs H → SlOk X.K T sl σ → ttS X e σ H (TPost X.K T Q)
structure S1 (st : Stmt) (rs : List Res) (R : Out) : Prop where
  go : ∀ T σ H, RepH X.K T rs H → SlOk X.K T sl σ → tsS X st (dof X.K T R) σ H
structure SW (sts : List Stmt) (rs : List Res) (R : Out) : Prop where
  go : ∀ T σ H, RepH X.K T rs H → SlOk X.K T sl σ → tssS X sts (dof X.K T R) σ H
end
/-- a two-place operation, a one-place one, a call, by values -/
structure BV (X : Cx) (f : Value → Value → Sem Value) (r1 r2 : Rv) (rs : List Res) (Q : EQ) : Prop where
  go : ∀ T H v1 v2, RepH X.K T rs H → RpV X.K T v1 r1 → RpV X.K T v2 r2 → opS X f v1 v2 H (EPost X.K T Q)
structure UV (X : Cx) (f : Value → Sem Value) (r1 : Rv) (rs : List Res) (Q : EQ) : Prop where
  go : ∀ T H v1, RepH X.K T rs H → RpV X.K T v1 r1 → unS X f v1 H (EPost X.K T Q)
structure CV (X : Cx) (f : Value) (as : List Rv) (rs : List Res) (Q : EQ) : Prop where
  go : ∀ T H vs, RepH X.K T rs H → RpVs X.K T vs as → caS X f vs H (EPost X.K T Q)
section
variable {X : Cx} {sl : Sl} {rs : List Res}
instance {e : Expr} {Q : EQ} : CoeFun (EW X sl e rs Q) (fun _ => ∀ T σ H, RepH X.K T rs H → SlOk X.K T sl σ → teS X e σ H (EPost X.K T Q)) := ⟨EW.go⟩
instance {e : List Expr} {Q : AQ} : CoeFun (AW X sl e rs Q) (fun _ => ∀ T σ H, RepH X.K T rs H → SlOk X.K T sl σ → taS X e σ H (APost X.K T Q)) := ⟨AW.go⟩
instance {e : Expr} {Q : TQ} : CoeFun (TW X sl e rs Q) (fun _ => ∀ T σ H, RepH X.K T rs H → SlOk X.K T sl σ → ttS X e σ H (TPost X.K T Q)) := ⟨TW.go⟩
instance {st : Stmt} {R : Out} : CoeFun (S1 X sl st rs R) (fun _ => ∀ T σ H, RepH X.K T rs H → SlOk X.K T sl σ → tsS X st (dof X.K T R) σ H) := ⟨S1.go⟩
instance {st : List Stmt} {R : Out} : CoeFun (SW X sl st rs R) (fun _ => ∀ T σ H, RepH X.K T rs H → SlOk X.K T sl σ → tssS X st (dof X.K T R) σ H) := ⟨SW.go⟩
instance {f : Value → Value → Sem Value} {r1 r2 : Rv} {Q : EQ} : CoeFun (BV X f r1 r2 rs Q) (fun _ => ∀ T H v1 v2, RepH X.K T rs H → RpV X.K T v1 r1 → RpV X.K T v2 r2 → opS X f v1 v2 H (EPost X.K T Q)) := ⟨BV.go⟩
instance {f : Value → Sem Value} {r1 : Rv} {Q : EQ} : CoeFun (UV X f r1 rs Q) (fun _ => ∀ T H v1, RepH X.K T rs H → RpV X.K T v1 r1 → unS X f v1 H (EPost X.K T Q)) := ⟨UV.go⟩
instance {f : Value} {as : List Rv} {Q : EQ} : CoeFun (CV X f as rs Q) (fun _ => ∀ T H vs, RepH X.K T rs H → RpVs X.K T vs as → caS X f vs H (EPost X.K T Q)) := ⟨CV.go⟩
end
end DL

set_option Elab.async false
set_option linter.all false
set_option maxRecDepth 100000
set_option maxHeartbeats 4000000
namespace DL
open PySem PySem.Spec L2

/-! ## expressions -/
section
variable {X : Cx} {sl : Sl} {rs : List Res} {Q : EQ} {e a b c : Expr} {es : List Expr} {pos p2 : Pos}
theorem ew_of {te : TE} (h : PE X e te) (hw : ∀ T σ H, RepH X.K T rs H → SlOk X.K T sl σ → te σ H (EPost X.K T Q)) : EW X sl e rs Q :=
  ⟨fun T σ H a b pins s I => h.run pins s σ H _ I (hw T σ H a b)⟩
theorem epost {K : PySem.W.Frag} {T : Tw} {H : Hp} {v : V} {r : Rv} (R : RepH K T rs H) (h : RpV K T v r) (q : Q r rs) : EPost K T Q v H := ⟨T, rs, r, .refl T, R, h, q⟩
theorem EW.mono {P : EQ} (h : EW X sl e rs P) (k : ∀ r rs', P r rs' → Q r rs') : EW X sl e rs Q := ⟨fun T σ H a b => (h T σ H a b).mono fun _ _ ⟨T', rs', r, l, R, v, q⟩ => ⟨T', rs', r, l, R, v, k _ _ q⟩⟩

theorem ew_name (i : Nat) {x : Str} {r : Rv} (hs : sl[i]? = some (some r)) (q : Q r rs) (hN : X.N[i]? = some x := by rfl)
    (hv : Vis X.env.scope x := by first | exact Or.inl rfl | exact Or.inr (Or.inl rfl) | exact Or.inr (Or.inr rfl)) (hd : (x == ("__debug__" : Str)) = false := by decide) (hcd : (x == ("__classdict__" : Str)) = false := by decide) : EW X sl (.Name x pos) rs Q :=
  ew_of (pe_var hN hv hd hcd) fun T σ H R S => by
    obtain ⟨v, e, p⟩ := S.get i r hs
    exact ⟨v, e, epost R p q⟩
theorem ew_int {i j} (q : Q (.sh (.int i)) rs) : EW X sl (.Constant (.int i) j pos) rs Q := ew_of pe_int fun T σ H R S => epost R (r := .sh (.int i)) (.int i) q
theorem ew_bl {i j} (q : Q (.sh (.bl i)) rs) : EW X sl (.Constant (.bool i) j pos) rs Q := ew_of pe_bl fun T σ H R S => epost R (r := .sh (.bl i)) (.bl i) q
theorem ew_non {j} (q : Q (.sh .non) rs) : EW X sl (.Constant .none j pos) rs Q := ew_of pe_non fun T σ H R S => epost R (r := .sh .non) .non q
theorem ew_str {i j} (q : Q (.sh (.str i)) rs) : EW X sl (.Constant (.str i) j pos) rs Q := ew_of pe_str fun T σ H R S => epost R (r := .sh (.str i)) (.str i) q
/-- a module's constant -/
structure GlD (K : PySem.W.Frag) (mg : Str → Option Value) (x : Str) (d : Da) : Prop where
  ex : ∃ u v, mg x = some u ∧ RelV v u ∧ ∀ H, Rp K H v d
theorem ew_glob {x : Str} {d : Da} (h : GlD X.K X.mg x d) (q : Q (.sh d) rs) (hg : Gl X x := by rfl) (hd : (x == ("__debug__" : Str)) = false := by decide) : EW X sl (.Name x pos) rs Q := by
  obtain ⟨u, v, h1, h2, h3⟩ := h.ex
  exact ew_of (pe_glob hg h1 h2 hd) fun T σ H R S => epost R (r := .sh d) (h3 _) q
theorem ew_bltn {x : Str} {n : String} (hm : X.mg x = none) (hv : bootBuiltins x = some (.type n)) (q : Q (.sh (.ty n)) rs) (hg : Gl X x := by rfl) (hn : x ≠ "__name__" := by decide) (hd : (x == ("__debug__" : Str)) = false := by decide) : EW X sl (.Name x pos) rs Q :=
  ew_of (pe_bltn (v := .ty n) hg hm hv rfl hn hd) fun T σ H R S => epost R (r := .sh (.ty n)) (.ty n) q

theorem then1 {T : Tw} {σ : L2.St} {H : Hp} {P : EQ} {R : VK} (h : EW X sl a rs P) (hR : RepH X.K T rs H) (hS : SlOk X.K T sl σ)
    (k : ∀ T' rs' r v H', T.le T' → RepH X.K T' rs' H' → RpV X.K T' v r → P r rs' → R v H') : teS X a σ H R :=
  (h T σ H hR hS).mono fun v H' ⟨T', rs', r, l, R', p, q⟩ => k T' rs' r v H' l R' p q
theorem ew_bin {op : Operator} (h : EW X sl a rs fun r1 rs1 => EW X sl b rs1 fun r2 rs2 => BV X (binaryOp op) r1 r2 rs2 Q) : EW X sl (.BinOp a op b pos) rs Q :=
  ew_of (pe_op op_S pe_S pe_S) fun T σ H R S => then1 h R S fun T1 rs1 r1 v1 H1 l1 R1 p1 q1 => then1 q1 R1 (S.le l1) fun T2 rs2 r2 v2 H2 l2 R2 p2 q2 => by
    intro pins s σ' u1 u2 I i1 i2
    exact thn (q2 T2 H2 v1 v2 R2 (p1.le l2) p2 pins s σ' u1 u2 I i1 i2) fun _ _ ⟨v, H', I', rl, q⟩ => ⟨v, H', I', rl, q.le (l1.trans l2)⟩
theorem ew_un {op : UnaryOp} (h : EW X sl a rs fun r1 rs1 => UV X (unaryOp op) r1 rs1 Q) : EW X sl (.UnaryOp op a pos) rs Q :=
  ew_of (pe_un un_S pe_S) fun T σ H R S => then1 h R S fun T1 rs1 r1 v1 H1 l1 R1 p1 q1 => by
    intro pins s σ' u1 I i1
    exact thn (q1 T1 H1 v1 R1 p1 pins s σ' u1 I i1) fun _ _ ⟨v, H', I', rl, q⟩ => ⟨v, H', I', rl, q.le l1⟩
theorem ew_cmp {op : CmpOp} (h : EW X sl a rs fun r1 rs1 => EW X sl b rs1 fun r2 rs2 => BV X (compareOp op) r1 r2 rs2 Q) (hm : behindInMarks op b = false := by first | exact nomark _ | rfl) : EW X sl (.Compare a [op] [b] pos) rs Q :=
  ew_of (pe_cmpR op_S pe_S pe_S hm) fun T σ H R S => then1 h R S fun T1 rs1 r1 v1 H1 l1 R1 p1 q1 => then1 q1 R1 (S.le l1) fun T2 rs2 r2 v2 H2 l2 R2 p2 q2 => by
    intro pins s σ' u1 u2 I i1 i2
    exact thn (q2 T2 H2 v1 v2 R2 (p1.le l2) p2 pins s σ' u1 u2 I i1 i2) fun _ _ ⟨v, H', I', rl, q⟩ => ⟨v, H', I', rl, q.le (l1.trans l2)⟩
/-- the answer is a bool -/
abbrev isB (Q : TQ) : EQ := fun r rs => ∃ b, r = .sh (.bl b) ∧ Q b rs
theorem tw_of {Q : TQ} {tt : TT} (h : PT X e tt) (hw : ∀ T σ H, RepH X.K T rs H → SlOk X.K T sl σ → tt σ H (TPost X.K T Q)) : TW X sl e rs Q :=
  ⟨fun T σ H a b pins s I => h.run pins s σ H _ I (hw T σ H a b)⟩
theorem thenT {T : Tw} {σ : L2.St} {H : Hp} {P : TQ} {R : Bool → Hp → Prop} (h : TW X sl a rs P) (hR : RepH X.K T rs H) (hS : SlOk X.K T sl σ)
    (k : ∀ T' rs' b H', T.le T' → RepH X.K T' rs' H' → P b rs' → R b H') : ttS X a σ H R :=
  (h T σ H hR hS).mono fun b H' ⟨T', rs', l, R', q⟩ => k T' rs' b H' l R' q
theorem blOf {K : PySem.W.Frag} {H : Hp} {v : V} {b : Bool} (h : Rp K H v (.bl b)) : v = .bl b := by cases h; rfl
theorem intOf {K : PySem.W.Frag} {H : Hp} {v : V} {b : Int} (h : Rp K H v (.int b)) : v = .int b := by cases h; rfl
theorem strOf {K : PySem.W.Frag} {H : Hp} {v : V} {b : Str} (h : Rp K H v (.str b)) : v = .str b := by cases h; rfl
theorem nonOf {K : PySem.W.Frag} {H : Hp} {v : V} (h : Rp K H v .non) : v = .non := by cases h; rfl
theorem tw_val {Q : TQ} (h : EW X sl e rs (isB Q)) (he : ∀ whole, isTrue e X.env whole = (do let v ← whole; standAt e.pos; holding [v] (truthy v)) := by intro _; rfl) : TW X sl e rs Q :=
  tw_of (pt_val pe_S he) fun T σ H R S => then1 h R S fun T1 rs1 r1 v1 H1 l1 R1 p1 ⟨b, e1, q1⟩ => by
    subst e1
    exact ⟨b, blOf p1, T1, rs1, l1, R1, q1⟩
theorem tw_cmp {Q : TQ} {op : CmpOp} (h : EW X sl a rs fun r1 rs1 => EW X sl b rs1 fun r2 rs2 => BV X (compareOp op) r1 r2 rs2 (isB Q)) (hm : behindInMarks op b = false := by first | exact nomark _ | rfl) : TW X sl (.Compare a [op] [b] pos) rs Q :=
  tw_of (pt_cmpR op_S pe_S pe_S hm) fun T σ H R S => then1 h R S fun T1 rs1 r1 v1 H1 l1 R1 p1 q1 => then1 q1 R1 (S.le l1) fun T2 rs2 r2 v2 H2 l2 R2 p2 q2 => by
    intro pins s σ' u1 u2 I i1 i2
    refine thn (q2 T2 H2 v1 v2 R2 (p1.le l2) p2 pins s σ' u1 u2 I i1 i2) fun _ _ ⟨v, H', I', rl, T', rs', r, l, R', p, b, e1, q⟩ => ⟨v, H', I', rl, ?_⟩
    subst e1
    exact ⟨b, blOf p, T', rs', (l1.trans l2).trans l, R', q⟩
theorem tw_not {Q : TQ} (h : TW X sl a rs fun b rs' => Q (!b) rs') : TW X sl (.UnaryOp .Not a pos) rs Q :=
  tw_of (pt_not pt_S) fun T σ H R S => thenT h R S fun T1 rs1 b H1 l1 R1 q1 => ⟨T1, rs1, l1, R1, q1⟩
structure TWs (X : Cx) (sl : Sl) (e : Expr) (rs : List Res) (Q : TQ) : Prop where
  run : ∃ tt, PW X e tt ∧ ∀ T σ H, RepH X.K T rs H → SlOk X.K T sl σ → tt σ H (TPost X.K T Q)
theorem tw_bop {Q : TQ} (h : TWs X sl e rs Q) : TW X sl e rs Q := by
  obtain ⟨tt, h1, h2⟩ := h.run
  exact tw_of h1.pt h2
theorem ttmono {tt : TT} (h : PW X e tt) {σ : L2.St} {H : Hp} : True := trivial
def twS (X : Cx) (e : Expr) : TT := fun σ H Q => ∀ (whole : Sem Value) (pins : List (Addr × Obj)) (s : Shared), Inv X pins σ H s → wpAny (model X.prog X.w) X.A (isTrue e X.env whole) (TP X pins σ Q) X.xe s
theorem pw_S : PW X e (twS X e) := ⟨fun w pins s _ _ _ I h => h w pins s I⟩
theorem twS.mono {σ : L2.St} {H : Hp} {P Q : Bool → Hp → Prop} (h : twS X e σ H P) (k : ∀ v H', P v H' → Q v H') : twS X e σ H Q := fun w pins s I => thn (h w pins s I) fun b _ ⟨H', a, c⟩ => ⟨H', a, k b H' c⟩
/-- a chain of and | or, whatever its whole -/
structure TB (X : Cx) (sl : Sl) (e : Expr) (rs : List Res) (Q : TQ) : Prop where
  go : ∀ T σ H, RepH X.K T rs H → SlOk X.K T sl σ → twS X e σ H (TPost X.K T Q)
instance {Q : TQ} : CoeFun (TB X sl e rs Q) (fun _ => ∀ T σ H, RepH X.K T rs H → SlOk X.K T sl σ → twS X e σ H (TPost X.K T Q)) := ⟨TB.go⟩
theorem tb_of {Q : TQ} {tt : TT} (h : PW X e tt) (hw : ∀ T σ H, RepH X.K T rs H → SlOk X.K T sl σ → tt σ H (TPost X.K T Q)) : TB X sl e rs Q :=
  ⟨fun T σ H a b w pins s I => h.run w pins s σ H _ I (hw T σ H a b)⟩
theorem tw_tb {Q : TQ} (h : TB X sl e rs Q) : TW X sl e rs Q := tw_of pw_S.pt h.go
theorem tb_or1 {Q : TQ} (h : TW X sl a rs Q) : TB X sl (.BoolOp .Or [a] pos) rs Q := tb_of (pw_or1 pt_S) h.go
theorem tb_and1 {Q : TQ} (h : TW X sl a rs Q) : TB X sl (.BoolOp .And [a] pos) rs Q := tb_of (pw_and1 pt_S) h.go
theorem tb_or {Q : TQ} (h : TW X sl a rs fun x rs1 => (x = true → Q true rs1) ∧ (x = false → TB X sl (.BoolOp .Or (b :: es) pos) rs1 Q)) : TB X sl (.BoolOp .Or (a :: b :: es) pos) rs Q :=
  tb_of (pw_or pt_S pw_S) fun T σ H R S => thenT h R S fun T1 rs1 x H1 l1 R1 ⟨q1, q2⟩ => by
    cases x with
    | true => exact iteT ⟨T1, rs1, l1, R1, q1 rfl⟩
    | false => exact iteF ((q2 rfl T1 σ H1 R1 (S.le l1)).mono fun _ _ q => q.le l1)
theorem tb_and {Q : TQ} (h : TW X sl a rs fun x rs1 => (x = false → Q false rs1) ∧ (x = true → TB X sl (.BoolOp .And (b :: es) pos) rs1 Q)) : TB X sl (.BoolOp .And (a :: b :: es) pos) rs Q :=
  tb_of (pw_and pt_S pw_S) fun T σ H R S => thenT h R S fun T1 rs1 x H1 l1 R1 ⟨q1, q2⟩ => by
    cases x with
    | false => exact iteF ⟨T1, rs1, l1, R1, q1 rfl⟩
    | true => exact iteT ((q2 rfl T1 σ H1 R1 (S.le l1)).mono fun _ _ q => q.le l1)
/-- a < b < c -/
theorem tw_chain {Q : TQ} {op op' : CmpOp} (h : EW X sl a rs fun r1 rs1 => EW X sl b rs1 fun r2 rs2 => BV X (compareOp op) r1 r2 rs2 fun r3 rs3 => ∃ x, r3 = .sh (.bl x) ∧ (x = false → Q false rs3) ∧ (x = true → EW X sl c rs3 fun r4 rs4 => BV X (compareOp op') r2 r4 rs4 (isB Q)))
    (hm : lastMarks [op, op'] [b, c] = false := by with_unfolding_all rfl) : TW X sl (.Compare a [op, op'] [b, c] pos) rs Q :=
  tw_of (pt_chain op_S op_S pe_S pe_S pe_S hm) fun T σ H R S => then1 h R S fun T1 rs1 r1 v1 H1 l1 R1 p1 q1 => then1 q1 R1 (S.le l1) fun T2 rs2 r2 v2 H2 l2 R2 p2 q2 => by
    intro pins s σ' u1 u2 I i1 i2
    refine thn (q2 T2 H2 v1 v2 R2 (p1.le l2) p2 pins s σ' u1 u2 I i1 i2) fun _ _ ⟨v, H', I', rl, T3, rs3, r, l3, R3, p3, x, e1, q3, q4⟩ => ⟨v, H', I', rl, ?_⟩
    subst e1
    refine ⟨x, blOf p3, ?_⟩
    cases x with
    | false => exact iteF ⟨false, rfl, T3, rs3, (l1.trans l2).trans l3, R3, q3 rfl⟩
    | true =>
      refine iteT (then1 (q4 rfl) R3 ((S.le l1).le (l2.trans l3)) fun T4 rs4 r4 v4 H4 l4 R4 p4 q5 => ?_)
      intro pins s σ' u1 u2 I i1 i2
      refine thn (q5 T4 H4 v2 v4 R4 (p2.le (l3.trans l4)) p4 pins s σ' u1 u2 I i1 i2) fun _ _ ⟨v, H', I', rl, T5, rs5, r5, l5, R5, p5, x, e1, q6⟩ => ⟨v, H', I', rl, ?_⟩
      subst e1
      exact ⟨x, blOf p5, T5, rs5, (((l1.trans l2).trans l3).trans l4).trans l5, R5, q6⟩
/-- a if t else b -/
theorem ew_if {c : Expr} (h : TW X sl c rs fun x rs1 => (x = true → EW X sl a rs1 Q) ∧ (x = false → EW X sl b rs1 Q)) : EW X sl (.IfExp c a b pos) rs Q :=
  ew_of (pe_ifExp pt_S pe_S pe_S) fun T σ H R S => thenT h R S fun T1 rs1 x H1 l1 R1 ⟨q1, q2⟩ => by
    cases x with
    | true => exact iteT ((q1 rfl T1 σ H1 R1 (S.le l1)).mono fun _ _ q => q.le l1)
    | false => exact iteF ((q2 rfl T1 σ H1 R1 (S.le l1)).mono fun _ _ q => q.le l1)
/-- and, or, not as values (bools) -/
theorem ew_one {op} (h : EW X sl a rs Q) : EW X sl (.BoolOp op [a] pos) rs Q := ew_of (pe_one pe_S) h.go
theorem ew_and (h : EW X sl a rs fun r rs1 => ∃ x, r = .sh (.bl x) ∧ (x = false → Q (.sh (.bl false)) rs1) ∧ (x = true → EW X sl (.BoolOp .And (b :: es) pos) rs1 Q)) : EW X sl (.BoolOp .And (a :: b :: es) pos) rs Q :=
  ew_of (pe_and pe_S pe_S) fun T σ H R S => then1 h R S fun T1 rs1 r v H1 l1 R1 p1 ⟨x, e1, q1, q2⟩ => by
    subst e1
    refine ⟨x, blOf p1, ?_⟩
    cases x with
    | false => exact iteF ⟨T1, rs1, .sh (.bl false), l1, R1, .bl false, q1 rfl⟩
    | true => exact iteT ((q2 rfl T1 σ H1 R1 (S.le l1)).mono fun _ _ q => q.le l1)
theorem ew_or (h : EW X sl a rs fun r rs1 => ∃ x, r = .sh (.bl x) ∧ (x = true → Q (.sh (.bl true)) rs1) ∧ (x = false → EW X sl (.BoolOp .Or (b :: es) pos) rs1 Q)) : EW X sl (.BoolOp .Or (a :: b :: es) pos) rs Q :=
  ew_of (pe_or pe_S pe_S) fun T σ H R S => then1 h R S fun T1 rs1 r v H1 l1 R1 p1 ⟨x, e1, q1, q2⟩ => by
    subst e1
    refine ⟨x, blOf p1, ?_⟩
    cases x with
    | true => exact iteT ⟨T1, rs1, .sh (.bl true), l1, R1, .bl true, q1 rfl⟩
    | false => exact iteF ((q2 rfl T1 σ H1 R1 (S.le l1)).mono fun _ _ q => q.le l1)
theorem ew_not (h : EW X sl a rs fun r rs1 => ∃ x, r = .sh (.bl x) ∧ Q (.sh (.bl (!x))) rs1) : EW X sl (.UnaryOp .Not a pos) rs Q :=
  ew_of (pe_not pe_S) fun T σ H R S => then1 h R S fun T1 rs1 r v H1 l1 R1 p1 ⟨x, e1, q1⟩ => by
    subst e1
    exact ⟨x, blOf p1, T1, rs1, .sh (.bl (!x)), l1, R1, .bl _, q1⟩

/-! ### argument lists, displays -/
theorem aw_of {ta : TA} {Q : AQ} (h : PA X es ta) (hw : ∀ T σ H, RepH X.K T rs H → SlOk X.K T sl σ → ta σ H (APost X.K T Q)) : AW X sl es rs Q :=
  ⟨fun T σ H a b pos pins s I => h.run pos pins s σ H _ I (hw T σ H a b)⟩
theorem aw_nil {Q : AQ} (q : Q [] rs) : AW X sl [] rs Q := aw_of pa_nil fun T σ H R S => ⟨T, rs, [], .refl T, R, .nil, q⟩
theorem aw_cons {Q : AQ} (h : EW X sl e rs fun r rs1 => AW X sl es rs1 fun as rs2 => Q (r :: as) rs2) (hs : starEach (e :: es) X.env = (false, eval e X.env) :: starEach es X.env := by rfl) : AW X sl (e :: es) rs Q :=
  aw_of (pa_cons pe_S pa_S hs) fun T σ H R S => then1 h R S fun T1 rs1 r1 v1 H1 l1 R1 p1 q1 => (q1 T1 σ H1 R1 (S.le l1)).mono fun vs H2 ⟨T2, rs2, as, l2, R2, p2, q2⟩ => ⟨T2, rs2, r1 :: as, l1.trans l2, R2, .cons (p1.le l2) p2, q2⟩
/-- each is data that stays, or may be read as such -/
inductive Shs (rs : List Res) : List Rv → List Da → Prop
  | nil : Shs rs [] []
  | cons {d : Da} {as : List Rv} {ds : List Da} : Shs rs as ds → Shs rs (.sh d :: as) (d :: ds)
  | frz {k : Nat} {d : Da} {as : List Rv} {ds : List Da} : rs[k]? = some (.frz d) → Shs rs as ds → Shs rs (.rf k :: as) (d :: ds)
theorem Shs.rps {K : PySem.W.Frag} {T : Tw} {H : Hp} (R : RepH K T rs H) : ∀ {as : List Rv} {ds : List Da} {vs : List V}, Shs rs as ds → RpVs K T vs as → Rps K T.H0 vs ds
  | _, _, _, .nil, .nil => .nil
  | _, _, _, .cons t, .cons p q => .cons p (Shs.rps R t q)
  | _, _, _, .frz e t, .cons p q => .cons (by rw [p.2]; exact R.rs _ _ e) (Shs.rps R t q)
theorem Shs.len : ∀ {as : List Rv} {ds : List Da}, Shs rs as ds → as.length = ds.length
  | _, _, .nil => rfl
  | _, _, .cons t => by rw [List.length_cons, List.length_cons, Shs.len t]
  | _, _, .frz _ t => by rw [List.length_cons, List.length_cons, Shs.len t]
theorem thenA {T : Tw} {σ : L2.St} {H : Hp} {P : AQ} {R : List V → Hp → Prop} (h : AW X sl es rs P) (hR : RepH X.K T rs H) (hS : SlOk X.K T sl σ)
    (k : ∀ T' rs' r v H', T.le T' → RepH X.K T' rs' H' → RpVs X.K T' v r → P r rs' → R v H') : taS X es σ H R :=
  (h T σ H hR hS).mono fun v H' ⟨T', rs', r, l, R', p, q⟩ => k T' rs' r v H' l R' p q
theorem ew_tup {x1} (h : AW X sl es rs fun as rs1 => ∃ ds, Shs rs1 as ds ∧ ds.length ≤ 100000 ∧ Q (.sh (.tup ds)) rs1) : EW X sl (.Tuple es x1 pos) rs Q :=
  ew_of (pe_tup pa_S) fun T σ H R S => thenA h R S fun T1 rs1 as vs H1 l1 R1 p1 ⟨ds, e1, hl, q1⟩ => by
    have rp := e1.rps R1 p1
    refine ⟨by rw [rp.len]; exact Nat.le_trans hl (by decide), fun p hp => ?_⟩
    obtain ⟨R2, l2⟩ := R1.share (o := .tup vs) hp
    exact ⟨_, rs1, .sh (.tup ds), l1.trans l2, R2, Rp.tup upd_same (rp.mono l2.h0), q1⟩
/-- a list display that stays as it is -/
theorem ew_lst (h : AW X sl es rs fun as rs1 => ∃ ds, Shs rs1 as ds ∧ ds.length ≤ 100000 ∧ Q (.sh (.lst ds)) rs1) : EW X sl (.List es pos) rs Q :=
  ew_of (pe_lst pa_S) fun T σ H R S => thenA h R S fun T1 rs1 as vs H1 l1 R1 p1 ⟨ds, e1, hl, q1⟩ => by
    have rp := e1.rps R1 p1
    refine ⟨by rw [rp.len]; exact Nat.le_trans hl (by decide), fun p hp => ?_⟩
    obtain ⟨R2, l2⟩ := R1.share (o := .lst vs) hp
    exact ⟨_, rs1, .sh (.lst ds), l1.trans l2, R2, Rp.lst upd_same (rp.mono l2.h0), q1⟩
theorem make_lst {K : PySem.W.Frag} {T : Tw} {H : Hp} {p : Addr} {vs : List V} {ds : List Da} (R : RepH K T rs H) (hp : H p = none) (rp : Rps K T.H0 vs ds) : RepH K (T.more p) (rs ++ [.lst ds]) (upd H p (.lst vs)) :=
  R.make hp ⟨by show (if (if T.n = T.n then p else T.ad T.n) = p then some T.n else _) = _; rw [if_pos rfl, if_pos rfl], vs, by show upd H p (.lst vs) (if T.n = T.n then p else T.ad T.n) = _; rw [if_pos rfl]; exact upd_same, rp⟩
theorem at_more {K : PySem.W.Frag} {T : Tw} {H : Hp} (R : RepH K T rs H) (p : Addr) : RpV K (T.more p) (.ref p) (.rf rs.length) :=
  ⟨by rw [R.n]; exact Nat.lt_succ_self _, by show V.ref p = .ref (if rs.length = T.n then p else T.ad rs.length); rw [if_pos R.n]⟩
/-- .. that may change -/
theorem ew_lstM (h : AW X sl es rs fun as rs1 => ∃ ds, Shs rs1 as ds ∧ ds.length ≤ 100000 ∧ Q (.rf rs1.length) (rs1 ++ [.lst ds])) : EW X sl (.List es pos) rs Q :=
  ew_of (pe_lst pa_S) fun T σ H R S => thenA h R S fun T1 rs1 as vs H1 l1 R1 p1 ⟨ds, e1, hl, q1⟩ => by
    have rp := e1.rps R1 p1
    refine ⟨by rw [rp.len]; exact Nat.le_trans hl (by decide), fun p hp => ?_⟩
    exact ⟨_, _, .rf rs1.length, l1.trans (T1.le_more p), make_lst R1 hp rp, at_more R1 p, q1⟩
end
end DL

set_option Elab.async false
set_option linter.all false
set_option maxRecDepth 100000
set_option maxHeartbeats 4000000
namespace DL
open PySem PySem.Spec L2

/-! ## operations by values -/
section
variable {X : Cx} {sl : Sl} {rs : List Res} {Q : EQ} {r1 r2 : Rv} {i j : Int} {x y : Str}
theorem bv_of {f : Value → Value → Sem Value} {r : R2} (h : OpR X f r) (hw : ∀ T H v1 v2, RepH X.K T rs H → RpV X.K T v1 r1 → RpV X.K T v2 r2 → r v1 v2 H (EPost X.K T Q)) : BV X f r1 r2 rs Q :=
  ⟨fun T H v1 v2 R a b pins s σ v u I rx ry => h pins s σ H v1 v2 v u _ I rx ry (hw T H v1 v2 R a b)⟩
theorem uv_of {f : Value → Sem Value} {r : V → Hp → VK → Prop} (h : UnR X f r) (hw : ∀ T H v1, RepH X.K T rs H → RpV X.K T v1 r1 → r v1 H (EPost X.K T Q)) : UV X f r1 rs Q :=
  ⟨fun T H v1 R a pins s σ v I rx => h pins s σ H v1 v _ I rx (hw T H v1 R a)⟩
theorem bv_I {f : Value → Value → Sem Value} {C : Int → Int → Prop} {g : Int → Int → V} {d : Da} (h : OpR X f (rI C g)) (hc : C i j) (hd : ∀ K H, Rp K H (g i j) d) (q : Q (.sh d) rs) : BV X f (.sh (.int i)) (.sh (.int j)) rs Q :=
  bv_of h fun T H v1 v2 R a b => ⟨i, j, intOf a, intOf b, hc, epost R (r := .sh d) (hd _ _) q⟩
theorem bv_I0 {f : Value → Value → Sem Value} {g : Int → Int → V} {d : Da} (h : OpR X f (rI0 g)) (hd : ∀ K H, Rp K H (g i j) d) (q : Q (.sh d) rs) : BV X f (.sh (.int i)) (.sh (.int j)) rs Q :=
  bv_of h fun T H v1 v2 R a b => ⟨i, j, intOf a, intOf b, epost R (r := .sh d) (hd _ _) q⟩
theorem bv_add (q : Q (.sh (.int (i + j))) rs) : BV X (binaryOp .Add) (.sh (.int i)) (.sh (.int j)) rs Q := bv_I0 op_add (fun _ _ => .int _) q
theorem bv_sub (q : Q (.sh (.int (i - j))) rs) : BV X (binaryOp .Sub) (.sh (.int i)) (.sh (.int j)) rs Q := bv_I0 op_sub (fun _ _ => .int _) q
theorem bv_mul (hc : CMulW i j) (q : Q (.sh (.int (i * j))) rs) : BV X (binaryOp .Mult) (.sh (.int i)) (.sh (.int j)) rs Q := bv_I op_mulW hc (fun _ _ => .int _) q
theorem bv_muls (hc : CMul i j) (q : Q (.sh (.int (i * j))) rs) : BV X (binaryOp .Mult) (.sh (.int i)) (.sh (.int j)) rs Q := bv_I op_mul hc (fun _ _ => .int _) q
theorem bv_fdiv (hc : CDivW i j) (q : Q (.sh (.int (i / j))) rs) : BV X (binaryOp .FloorDiv) (.sh (.int i)) (.sh (.int j)) rs Q := bv_I op_fdivW hc (fun _ _ => .int _) q
theorem bv_mod (hc : 0 < j) (q : Q (.sh (.int (i % j))) rs) : BV X (binaryOp .Mod) (.sh (.int i)) (.sh (.int j)) rs Q := bv_I op_mod hc (fun _ _ => .int _) q
theorem bv_pow (hc : CPow i j) (q : Q (.sh (.int (i ^ j.toNat))) rs) : BV X (binaryOp .Pow) (.sh (.int i)) (.sh (.int j)) rs Q := bv_I op_pow hc (fun _ _ => .int _) q
theorem bv_lt (q : Q (.sh (.bl (decide (i < j)))) rs) : BV X (compareOp .Lt) (.sh (.int i)) (.sh (.int j)) rs Q := bv_I0 op_lt (fun _ _ => .bl _) q
theorem bv_le (q : Q (.sh (.bl (decide (i ≤ j)))) rs) : BV X (compareOp .LtE) (.sh (.int i)) (.sh (.int j)) rs Q := bv_I0 op_le (fun _ _ => .bl _) q
theorem bv_gt (q : Q (.sh (.bl (decide (j < i)))) rs) : BV X (compareOp .Gt) (.sh (.int i)) (.sh (.int j)) rs Q := bv_I0 op_gt (fun _ _ => .bl _) q
theorem bv_ge (q : Q (.sh (.bl (decide (j ≤ i)))) rs) : BV X (compareOp .GtE) (.sh (.int i)) (.sh (.int j)) rs Q := bv_I0 op_ge (fun _ _ => .bl _) q
theorem uv_neg (q : Q (.sh (.int (-i))) rs) : UV X (unaryOp .USub) (.sh (.int i)) rs Q := uv_of un_neg fun T H v R a => ⟨i, intOf a, epost R (r := .sh (.int (-i))) (.int _) q⟩
theorem bv_addS (hl : x.length + y.length ≤ 1000000) (q : Q (.sh (.str (x ++ y))) rs) : BV X (binaryOp .Add) (.sh (.str x)) (.sh (.str y)) rs Q :=
  bv_of op_add_str fun T H v1 v2 R a b => ⟨x, y, strOf a, strOf b, Nat.le_trans hl (by decide), epost R (r := .sh (.str (x ++ y))) (.str _) q⟩

/-- flat data -/
def flat : Da → Option V
  | .non => some .non | .bl b => some (.bl b) | .int i => some (.int i) | .str x => some (.str x) | _ => none
theorem flatOf {K : PySem.W.Frag} {H : Hp} {v w : V} {d : Da} (h : Rp K H v d) (e : flat d = some w) : v = w := by
  cases h <;> first | (cases e; rfl) | (cases e)
theorem bv_eq {d1 d2 : Da} {w1 w2 : V} (h1 : flat d1 = some w1) (h2 : flat d2 = some w2) (hs : scal w1 w2 = true) {b : Bool} (hb : decide (w1 = w2) = b) (q : Q (.sh (.bl b)) rs) : BV X (compareOp .Eq) (.sh d1) (.sh d2) rs Q :=
  bv_of op_eq fun T H v1 v2 R a b' => by
    rw [flatOf a h1, flatOf b' h2]
    exact ⟨hs, by rw [hb]; exact epost R (r := .sh (.bl b)) (.bl _) q⟩
theorem bv_ne {d1 d2 : Da} {w1 w2 : V} (h1 : flat d1 = some w1) (h2 : flat d2 = some w2) (hs : scal w1 w2 = true) {b : Bool} (hb : (!decide (w1 = w2)) = b) (q : Q (.sh (.bl b)) rs) : BV X (compareOp .NotEq) (.sh d1) (.sh d2) rs Q :=
  bv_of op_ne fun T H v1 v2 R a b' => by
    rw [flatOf a h1, flatOf b' h2]
    exact ⟨hs, by rw [hb]; exact epost R (r := .sh (.bl b)) (.bl _) q⟩
theorem bv_eqI (q : Q (.sh (.bl (decide (i = j)))) rs) : BV X (compareOp .Eq) (.sh (.int i)) (.sh (.int j)) rs Q := bv_eq rfl rfl rfl (by simp) q
theorem bv_neI (q : Q (.sh (.bl (!decide (i = j)))) rs) : BV X (compareOp .NotEq) (.sh (.int i)) (.sh (.int j)) rs Q := bv_ne rfl rfl rfl (by simp) q
theorem bv_eqS (q : Q (.sh (.bl (decide (x = y)))) rs) : BV X (compareOp .Eq) (.sh (.str x)) (.sh (.str y)) rs Q := bv_eq rfl rfl rfl (by simp) q
theorem bv_neS (q : Q (.sh (.bl (!decide (x = y)))) rs) : BV X (compareOp .NotEq) (.sh (.str x)) (.sh (.str y)) rs Q := bv_ne rfl rfl rfl (by simp) q
theorem bv_eqB {a b : Bool} (q : Q (.sh (.bl (decide (a = b)))) rs) : BV X (compareOp .Eq) (.sh (.bl a)) (.sh (.bl b)) rs Q := bv_eq rfl rfl rfl (by simp) q
theorem bv_neB {a b : Bool} (q : Q (.sh (.bl (!decide (a = b)))) rs) : BV X (compareOp .NotEq) (.sh (.bl a)) (.sh (.bl b)) rs Q := bv_ne rfl rfl rfl (by simp) q
/-- is None -/
def isNon : Rv → Bool
  | .sh .non => true | _ => false
theorem isNon_ok {K : PySem.W.Frag} {T : Tw} {v : V} {r : Rv} (h : RpV K T v r) : decide (v = .non) = isNon r := by
  cases r with
  | rf k => obtain ⟨_, e⟩ := h; rw [e]; rfl
  | sh d => cases h <;> rfl
theorem bv_isN (q : Q (.sh (.bl (isNon r1))) rs) : BV X (compareOp .Is) r1 (.sh .non) rs Q :=
  bv_of op_isN fun T H v1 v2 R a b => ⟨nonOf b, by rw [isNon_ok a]; exact epost R (r := .sh (.bl _)) (.bl _) q⟩
theorem bv_notN (q : Q (.sh (.bl (!isNon r1))) rs) : BV X (compareOp .IsNot) r1 (.sh .non) rs Q :=
  bv_of op_notN fun T H v1 v2 R a b => ⟨nonOf b, by rw [isNon_ok a]; exact epost R (r := .sh (.bl _)) (.bl _) q⟩
/-- one sign in a text -/
theorem bv_inC {c : Nat} (q : Q (.sh (.bl (decide (c ∈ y.cps.toList)))) rs) : BV X (compareOp .In) (.sh (.str ⟨#[c]⟩)) (.sh (.str y)) rs Q :=
  bv_of op_in_sign fun T H v1 v2 R a b => ⟨c, y, strOf a, strOf b, epost R (r := .sh (.bl _)) (.bl _) q⟩
theorem bv_ninC {c : Nat} (q : Q (.sh (.bl (!decide (c ∈ y.cps.toList)))) rs) : BV X (compareOp .NotIn) (.sh (.str ⟨#[c]⟩)) (.sh (.str y)) rs Q :=
  bv_of op_notIn_sign fun T H v1 v2 R a b => ⟨c, y, strOf a, strOf b, epost R (r := .sh (.bl _)) (.bl _) q⟩
/-- a flat thing in a list or tuple of flat things -/
def flats (ds : List Da) : Option (List V) := ds.mapM flat
theorem flat_flat {d : Da} {w : V} (h : flat d = some w) : flatV w = true := by
  cases d <;> first | (cases h; rfl) | (cases h)
theorem flatsOf {K : PySem.W.Frag} {H : Hp} : ∀ {vs ws : List V} {ds : List Da}, Rps K H vs ds → ds.mapM flat = some ws → vs = ws ∧ ws.all flatV = true
  | _, _, _, .nil, e => by simp at e; subst e; exact ⟨rfl, rfl⟩
  | v :: vs, ws, d :: ds, .cons a b, e => by
    simp only [List.mapM_cons, Option.bind_eq_bind, Option.bind_eq_some_iff] at e
    obtain ⟨w, e1, ws', e2, e3⟩ := e
    cases e3
    obtain ⟨h1, h2⟩ := flatsOf b e2
    rw [flatOf a e1, h1]
    exact ⟨rfl, by rw [List.all_cons, flat_flat e1, h2]; rfl⟩
inductive VwSeq (rs : List Res) : Rv → List Da → Prop
  | lst {r : Rv} {ds : List Da} : Vw rs r (.lst ds) → VwSeq rs r ds
  | tup {r : Rv} {ds : List Da} : Vw rs r (.tup ds) → VwSeq rs r ds
  | tupK {ds : List Da} : VwSeq rs (.sh (.tupK ds)) ds
  | lstK {ds : List Da} : VwSeq rs (.sh (.lstK ds)) ds
theorem VwSeq.rp {K : PySem.W.Frag} {T : Tw} {H : Hp} {v : V} {r : Rv} {ds : List Da} (w : VwSeq rs r ds) (R : RepH K T rs H) (h : RpV K T v r) : ∃ a vs, v = .ref a ∧ (SqL K H a vs ∨ SqT K H a vs) ∧ Rps K H vs ds := by
  cases w with
  | lst w => cases w.rp R h with | lst a b => exact ⟨_, _, rfl, .inl (SqL.of a), b⟩
  | lstK => cases (Rp.mono R.h0 h) with | lstK a b => exact ⟨_, _, rfl, .inl a, b⟩
  | tup w => cases w.rp R h with | tup a b => exact ⟨_, _, rfl, .inr (SqT.of a), b⟩
  | tupK => cases (Rp.mono R.h0 h) with | tupK a b => exact ⟨_, _, rfl, .inr a, b⟩
theorem VwSeq.rp0 {K : PySem.W.Frag} {T : Tw} {H : Hp} {v : V} {r : Rv} {ds : List Da} (w : VwSeq rs r ds) (R : RepH K T rs H) (h : RpV K T v r) : ∃ a vs, v = .ref a ∧ (SqL K H a vs ∨ SqT K H a vs) ∧ Rps K T.H0 vs ds := by
  cases w with
  | lst w =>
    cases w with
    | sh => cases h with | lst a b => exact ⟨_, _, rfl, .inl (SqL.of (R.h0 _ _ a)), b⟩
    | lst e =>
      obtain ⟨_, e2⟩ := h
      obtain ⟨_, vs, q2, q3⟩ := R.rs _ _ e
      exact ⟨_, vs, e2, .inl (SqL.of q2), q3⟩
    | frz e =>
      obtain ⟨_, e2⟩ := h
      have q := R.rs _ _ e
      cases q with | lst a b => exact ⟨_, _, e2, .inl (SqL.of (R.h0 _ _ a)), b⟩
  | tup w =>
    cases w with
    | sh => cases h with | tup a b => exact ⟨_, _, rfl, .inr (SqT.of (R.h0 _ _ a)), b⟩
    | frz e =>
      obtain ⟨_, e2⟩ := h
      have q := R.rs _ _ e
      cases q with | tup a b => exact ⟨_, _, e2, .inr (SqT.of (R.h0 _ _ a)), b⟩
  | tupK => cases h with | tupK a b => exact ⟨_, _, rfl, .inr (R.h0.sqT a), b⟩
  | lstK => cases h with | lstK a b => exact ⟨_, _, rfl, .inl (R.h0.sqL a), b⟩
theorem bv_inF {d : Da} {w : V} {ds : List Da} {ws : List V} {b : Bool} (hw : VwSeq rs r2 ds) (h1 : flat d = some w) (h2 : ds.mapM flat = some ws) (hb : inV w ws = b) (q : Q (.sh (.bl b)) rs) : BV X (compareOp .In) (.sh d) r2 rs Q :=
  bv_of op_in_seq fun T H v1 v2 R a b' => by
    obtain ⟨p, vs, e, hs, rp⟩ := hw.rp R b'
    obtain ⟨e1, e2⟩ := flatsOf rp h2
    subst e1
    rw [flatOf a h1]
    exact ⟨p, vs, e, hs, flat_flat h1, e2, by show EPost _ _ _ (V.bl (if false = true then !inV w vs else inV w vs)) H; rw [if_neg Bool.false_ne_true, hb]; exact epost R (r := .sh (.bl b)) (.bl _) q⟩
theorem bv_ninF {d : Da} {w : V} {ds : List Da} {ws : List V} {b : Bool} (hw : VwSeq rs r2 ds) (h1 : flat d = some w) (h2 : ds.mapM flat = some ws) (hb : (!inV w ws) = b) (q : Q (.sh (.bl b)) rs) : BV X (compareOp .NotIn) (.sh d) r2 rs Q :=
  bv_of op_notIn_seq fun T H v1 v2 R a b' => by
    obtain ⟨p, vs, e, hs, rp⟩ := hw.rp R b'
    obtain ⟨e1, e2⟩ := flatsOf rp h2
    subst e1
    rw [flatOf a h1]
    exact ⟨p, vs, e, hs, flat_flat h1, e2, by show EPost _ _ _ (V.bl (if true = true then !inV w vs else inV w vs)) H; rw [if_pos rfl, hb]; exact epost R (r := .sh (.bl b)) (.bl _) q⟩

/-! ### subscripts -/
theorem ixR_of {r : R2} (h : IxR X r) {a b : Expr} {pos : Pos} (hp : PlainIx b) {P : Rv → Rv → List Res → Prop}
    (hh : EW X sl a rs fun r1 rs1 => EW X sl b rs1 fun r2 rs2 => P r1 r2 rs2)
    (hw : ∀ T H v1 v2 r1 r2 rs2, P r1 r2 rs2 → RepH X.K T rs2 H → RpV X.K T v1 r1 → RpV X.K T v2 r2 → r v1 v2 H (EPost X.K T Q))
    (rm : ∀ v1 v2 H (P Q : VK), (∀ v H', P v H' → Q v H') → r v1 v2 H P → r v1 v2 H Q) : EW X sl (.Subscript a b pos) rs Q :=
  ew_of (pe_ix h pe_S pe_S hp) fun T σ H R S => then1 hh R S fun T1 rs1 r1 v1 H1 l1 R1 p1 q1 => then1 q1 R1 (S.le l1) fun T2 rs2 r2 v2 H2 l2 R2 p2 q2 =>
    rm _ _ _ _ _ (fun _ _ q => q.le (l1.trans l2)) (hw T2 H2 v1 v2 r1 r2 rs2 q2 R2 (p1.le l2) p2)
theorem atI_rps {K : PySem.W.Frag} {H : Hp} {vs : List V} {ds : List Da} {d : Da} (rp : Rps K H vs ds) (h : atI ds i = some d) : ∃ v, atI vs i = some v ∧ Rp K H v d := by
  unfold atI at h ⊢
  rw [rp.len]
  cases e : ixN ds.length i with
  | none => rw [e] at h; cases h
  | some k =>
    rw [e] at h
    exact rp.get h
/-- a[i] of a list or tuple -/
inductive IxD (rs : List Res) (Q : EQ) : Rv → Rv → Prop
  | seq {r : Rv} {i : Int} {ds : List Da} {d : Da} : VwSeq rs r ds → atI ds i = some d → (∀ r', (r' = .sh d) → Q r' rs) → IxD rs Q r (.sh (.int i))
  | str {x : Str} {i : Int} {c : Nat} : x.length ≤ 1000000 → atI x.cps.toList i = some c → Q (.sh (.str ⟨#[c]⟩)) rs → IxD rs Q (.sh (.str x)) (.sh (.int i))
/-- the items of what we hold are shared -/
theorem VwSeq.item {K : PySem.W.Frag} {T : Tw} {H : Hp} {v : V} {r : Rv} {ds : List Da} {d : Da} (w : VwSeq rs r ds) (R : RepH K T rs H) (h : RpV K T v r) (hi : atI ds i = some d) :
    ∃ a vs u, v = .ref a ∧ (SqL K H a vs ∨ SqT K H a vs) ∧ atI vs i = some u ∧ Rp K T.H0 u d := by
  have go : ∀ {vs : List V}, Rps K T.H0 vs ds → ∃ u, atI vs i = some u ∧ Rp K T.H0 u d := fun rp => atI_rps rp hi
  cases w with
  | lst w =>
    cases w with
    | sh => cases h with | lst a b => obtain ⟨u, h1, h2⟩ := go b; exact ⟨_, _, u, rfl, .inl (SqL.of (R.h0 _ _ a)), h1, h2⟩
    | lst e =>
      obtain ⟨_, e2⟩ := h
      obtain ⟨_, vs, q2, q3⟩ := R.rs _ _ e
      obtain ⟨u, h1, h2⟩ := go q3
      exact ⟨_, vs, u, e2, .inl (SqL.of q2), h1, h2⟩
    | frz e =>
      obtain ⟨_, e2⟩ := h
      have q := R.rs _ _ e
      cases q with | lst a b => obtain ⟨u, h1, h2⟩ := go b; exact ⟨_, _, u, e2, .inl (SqL.of (R.h0 _ _ a)), h1, h2⟩
  | lstK => cases h with | lstK a b => obtain ⟨u, h1, h2⟩ := go b; exact ⟨_, _, u, rfl, .inl (R.h0.sqL a), h1, h2⟩
  | tup w =>
    cases w with
    | sh => cases h with | tup a b => obtain ⟨u, h1, h2⟩ := go b; exact ⟨_, _, u, rfl, .inr (SqT.of (R.h0 _ _ a)), h1, h2⟩
    | frz e =>
      obtain ⟨_, e2⟩ := h
      have q := R.rs _ _ e
      cases q with | tup a b => obtain ⟨u, h1, h2⟩ := go b; exact ⟨_, _, u, e2, .inr (SqT.of (R.h0 _ _ a)), h1, h2⟩
  | tupK => cases h with | tupK a b => obtain ⟨u, h1, h2⟩ := go b; exact ⟨_, _, u, rfl, .inr (R.h0.sqT a), h1, h2⟩
theorem ew_ix {a b : Expr} {pos : Pos} (h : EW X sl a rs fun r1 rs1 => EW X sl b rs1 fun r2 rs2 => IxD rs2 Q r1 r2) (hp : PlainIx b := by exact (fun _ _ => rfl)) : EW X sl (.Subscript a b pos) rs Q :=
  ixR_of ix_seq hp h (fun T H v1 v2 r1 r2 rs2 P R p1 p2 => by
    cases P with
    | seq w e q =>
      obtain ⟨p, vs, u, e1, hs, e2, rp⟩ := w.item R p1 e
      rcases hs with hs | hs
      · exact .inl ⟨p, vs, _, u, e1, intOf p2, hs, e2, epost R (r := .sh _) rp (q _ rfl)⟩
      · exact .inr (.inl ⟨p, vs, _, u, e1, intOf p2, hs, e2, epost R (r := .sh _) rp (q _ rfl)⟩)
    | str hl e q => exact .inr (.inr ⟨_, _, _, strOf p1, intOf p2, Nat.le_trans hl (by decide), e, epost R (r := .sh (.str _)) (.str _) q⟩)) fun v1 v2 H P Q k q => by
    rcases q with ⟨a, b, c, d, e1, e2, e3, e4, q⟩ | ⟨a, b, c, d, e1, e2, e3, e4, q⟩ | ⟨a, b, c, e1, e2, e3, e4, q⟩
    · exact .inl ⟨a, b, c, d, e1, e2, e3, e4, k _ _ q⟩
    · exact .inr (.inl ⟨a, b, c, d, e1, e2, e3, e4, k _ _ q⟩)
    · exact .inr (.inr ⟨a, b, c, e1, e2, e3, e4, k _ _ q⟩)

/-! ### slices -/
def toS (X : Cx) (e : Option Expr) : TO := fun σ H Q => ∀ (pins : List (Addr × Obj)) (s : Shared), Inv X pins σ H s → wpAny (model X.prog X.w) X.A (evalPart e X.env) (fun u s' => ∃ o H', Inv X pins σ H' s' ∧ IsPart u o ∧ Q o H') X.xe s
theorem po_S {e : Option Expr} : PO X e (toS X e) := ⟨fun pins s _ _ _ I h => h pins s I⟩
structure OW (X : Cx) (sl : Sl) (e : Option Expr) (rs : List Res) (Q : Option Int → List Res → Prop) : Prop where
  go : ∀ T σ H, RepH X.K T rs H → SlOk X.K T sl σ → toS X e σ H (fun o H' => ∃ T' rs', T.le T' ∧ RepH X.K T' rs' H' ∧ Q o rs')
theorem ow_of {e : Option Expr} {to : TO} {Q : Option Int → List Res → Prop} (h : PO X e to) (hw : ∀ T σ H, RepH X.K T rs H → SlOk X.K T sl σ → to σ H (fun o H' => ∃ T' rs', T.le T' ∧ RepH X.K T' rs' H' ∧ Q o rs')) : OW X sl e rs Q :=
  ⟨fun T σ H a b pins s I => h.run pins s σ H _ I (hw T σ H a b)⟩
theorem ow_none {Q : Option Int → List Res → Prop} (q : Q none rs) : OW X sl none rs Q := ow_of po_none fun T σ H R S => ⟨T, rs, .refl T, R, q⟩
theorem ow_some {e : Expr} {Q : Option Int → List Res → Prop} (h : EW X sl e rs fun r rs1 => ∃ i, r = .sh (.int i) ∧ Q (some i) rs1) : OW X sl (some e) rs Q :=
  ow_of (po_some pe_S) fun T σ H R S => then1 h R S fun T1 rs1 r1 v1 H1 l1 R1 p1 ⟨i, e1, q1⟩ => by
    subst e1
    exact ⟨i, intOf p1, T1, rs1, l1, R1, q1⟩
def cutD (ds : List Da) (lo hi : Option Int) : List Da := (ds.drop (HT.sIx ds.length 0 lo)).take (HT.sIx ds.length ds.length hi - HT.sIx ds.length 0 lo)
theorem cutV_rps {K : PySem.W.Frag} {H : Hp} {vs : List V} {ds : List Da} (rp : Rps K H vs ds) (lo hi : Option Int) : Rps K H (cutV vs lo hi) (cutD ds lo hi) := by
  unfold cutV cutD
  rw [rp.len]
  exact (rp.drop _).take _
/-- a[lo:hi] of a list (a new one that stays), of a text -/
inductive SlD (rs : List Res) (lo hi : Option Int) (Q : EQ) : Rv → Prop
  | lst {r : Rv} {ds : List Da} : Vw rs r (.lst ds) → Q (.sh (.lst (cutD ds lo hi))) rs → SlD rs lo hi Q r
  | lstK {ds : List Da} : Q (.sh (.lst (cutD ds lo hi))) rs → SlD rs lo hi Q (.sh (.lstK ds))
  | lstM {r : Rv} {ds : List Da} : Vw rs r (.lst ds) → Q (.rf rs.length) (rs ++ [.lst (cutD ds lo hi)]) → SlD rs lo hi Q r
  | str {x : Str} : x.length ≤ 1000000 → Q (.sh (.str (cutS x lo hi))) rs → SlD rs lo hi Q (.sh (.str x))
theorem Vw.lstv' {K : PySem.W.Frag} {T : Tw} {H : Hp} {v : V} {r : Rv} {ds : List Da} (w : Vw rs r (.lst ds)) (R : RepH K T rs H) (h : RpV K T v r) : ∃ a vs, v = .ref a ∧ H a = some (.lst vs) ∧ Rps K T.H0 vs ds := by
  cases w with
  | sh => cases h with | lst a b => exact ⟨_, _, rfl, R.h0 _ _ a, b⟩
  | lst e =>
    obtain ⟨_, e2⟩ := h
    obtain ⟨_, vs, q2, q3⟩ := R.rs _ _ e
    exact ⟨_, vs, e2, q2, q3⟩
  | frz e =>
    obtain ⟨_, e2⟩ := h
    have q := R.rs _ _ e
    cases q with | lst a b => exact ⟨_, _, e2, R.h0 _ _ a, b⟩
theorem Vw.lstv {K : PySem.W.Frag} {T : Tw} {H : Hp} {v : V} {r : Rv} {ds : List Da} (w : Vw rs r (.lst ds)) (R : RepH K T rs H) (h : RpV K T v r) : ∃ a vs, v = .ref a ∧ SqL K H a vs ∧ Rps K T.H0 vs ds :=
  let ⟨a, vs, e, h1, h2⟩ := w.lstv' R h; ⟨a, vs, e, SqL.of h1, h2⟩
theorem Vw.tupv {K : PySem.W.Frag} {T : Tw} {H : Hp} {v : V} {r : Rv} {ds : List Da} (w : Vw rs r (.tup ds)) (R : RepH K T rs H) (h : RpV K T v r) : ∃ a vs, v = .ref a ∧ H a = some (.tup vs) ∧ Rps K T.H0 vs ds := by
  cases w with
  | sh => cases h with | tup a b => exact ⟨_, _, rfl, R.h0 _ _ a, b⟩
  | frz e =>
    obtain ⟨_, e2⟩ := h
    have q := R.rs _ _ e
    cases q with | tup a b => exact ⟨_, _, e2, R.h0 _ _ a, b⟩
theorem ew_slice {a : Expr} {lo hi : Option Expr} {pos p2 : Pos} (h : EW X sl a rs fun r1 rs1 => OW X sl lo rs1 fun l rs2 => OW X sl hi rs2 fun u rs3 => SlD rs3 l u Q r1) : EW X sl (.Subscript a (.Slice lo hi none p2) pos) rs Q :=
  ew_of (pe_slice (sl_list.or sl_str) pe_S po_S po_S) fun T σ H R S => then1 h R S fun T1 rs1 r1 v1 H1 l1 R1 p1 q1 => fun pins s I =>
    thn (q1.go T1 σ H1 R1 (S.le l1) pins s I) fun u s' ⟨o, H2, I2, ip, T2, rs2, l2, R2, q2⟩ => ⟨o, H2, I2, ip, fun pins s I => thn (q2.go T2 σ H2 R2 (S.le (l1.trans l2)) pins s I) fun u s' ⟨o', H3, I3, ip', T3, rs3, l3, R3, q3⟩ => ⟨o', H3, I3, ip', by
      have pr := p1.le (l2.trans l3)
      have lt := (l1.trans l2).trans l3
      cases q3 with
      | lst w q =>
        obtain ⟨ad, vs, e1, hs, rp⟩ := w.lstv R3 pr
        refine .inl ⟨ad, vs, e1, hs, fun p hp => ?_⟩
        obtain ⟨R4, l4⟩ := R3.share (o := .lst (cutV vs o o')) hp
        exact ⟨_, rs3, .sh (.lst _), lt.trans l4, R4, Rp.lst upd_same ((cutV_rps rp _ _).mono l4.h0), q⟩
      | lstK q =>
        cases pr with
        | lstK hs0 rp =>
          refine .inl ⟨_, _, rfl, R3.h0.sqL hs0, fun p hp => ?_⟩
          obtain ⟨R4, l4⟩ := R3.share (o := .lst (cutV _ o o')) hp
          exact ⟨_, rs3, .sh (.lst _), lt.trans l4, R4, Rp.lst upd_same ((cutV_rps rp _ _).mono l4.h0), q⟩
      | lstM w q =>
        obtain ⟨ad, vs, e1, hs, rp⟩ := w.lstv R3 pr
        refine .inl ⟨ad, vs, e1, hs, fun p hp => ?_⟩
        exact ⟨_, _, .rf rs3.length, lt.trans (T3.le_more p), make_lst R3 hp (cutV_rps rp _ _), at_more R3 p, q⟩
      | str hl q => exact .inr ⟨_, strOf pr, Nat.le_trans hl (by decide), T3, rs3, .sh (.str _), lt, R3, .str _, q⟩⟩⟩

/-! ### calls of what is built in -/
theorem cv_of {f : Value} {as : List Rv} {r : List V → Hp → VK → Prop} (h : CallR X f r) (hw : ∀ T H vs, RepH X.K T rs H → RpVs X.K T vs as → r vs H (EPost X.K T Q)) : CV X f as rs Q :=
  ⟨fun T H vs R a pins s σ us I r => h pins s σ H vs us _ I r (hw T H vs R a)⟩
theorem ew_callB {n : Str} {id : String} {e : Expr} {es : List Expr} {p pos : Pos} (hm : X.mg n = none) (hv : bootBuiltins n = some (.builtin id)) (h : AW X sl (e :: es) rs fun as rs1 => CV X (.builtin id) as rs1 Q) (hg : Gl X n := by rfl) (hn : n ≠ "__name__" := by decide) (hdb : (n == ("__debug__" : Str)) = false := by decide)
    (he : starEach (e :: es) X.env = (false, eval e X.env) :: starEach es X.env := by rfl) (hpl : (backTo pos (starEach es X.env)).any (·.1) = false := by rfl) : EW X sl (.Call (.Name n p) (e :: es) [] pos) rs Q :=
  ew_of (pe_callB ca_S hg hm hv pa_S hn hdb he hpl) fun T σ H R S => thenA h R S fun T1 rs1 as vs H1 l1 R1 p1 q1 pins s σ' us I r =>
    thn (q1 T1 H1 vs R1 p1 pins s σ' us I r) fun _ _ ⟨v, H', I', rl, q⟩ => ⟨v, H', I', rl, q.le l1⟩
theorem ew_callT {n : Str} {id : String} {e : Expr} {es : List Expr} {p pos : Pos} (hm : X.mg n = none) (hv : bootBuiltins n = some (.type id)) (h : AW X sl (e :: es) rs fun as rs1 => CV X (.type id) as rs1 Q) (hg : Gl X n := by rfl) (hn : n ≠ "__name__" := by decide) (hdb : (n == ("__debug__" : Str)) = false := by decide)
    (he : starEach (e :: es) X.env = (false, eval e X.env) :: starEach es X.env := by rfl) (hpl : (backTo pos (starEach es X.env)).any (·.1) = false := by rfl) : EW X sl (.Call (.Name n p) (e :: es) [] pos) rs Q :=
  ew_of (pe_callTy ca_S hg hm hv pa_S hn hdb he hpl) fun T σ H R S => thenA h R S fun T1 rs1 as vs H1 l1 R1 p1 q1 pins s σ' us I r =>
    thn (q1 T1 H1 vs R1 p1 pins s σ' us I r) fun _ _ ⟨v, H', I', rl, q⟩ => ⟨v, H', I', rl, q.le l1⟩
theorem rp1 {K : PySem.W.Frag} {T : Tw} {vs : List V} {r : Rv} (h : RpVs K T vs [r]) : ∃ v, vs = [v] ∧ RpV K T v r := by
  cases h with | cons a b => cases b; exact ⟨_, rfl, a⟩
theorem rp2 {K : PySem.W.Frag} {T : Tw} {vs : List V} {r r' : Rv} (h : RpVs K T vs [r, r']) : ∃ v w, vs = [v, w] ∧ RpV K T v r ∧ RpV K T w r' := by
  cases h with | cons a b => cases b with | cons b c => cases c; exact ⟨_, _, rfl, a, b⟩
theorem cv_lenS (hl : x.length ≤ 1000000) (q : Q (.sh (.int x.length)) rs) : CV X (.builtin "len") [.sh (.str x)] rs Q :=
  cv_of call_len_str fun T H vs R pp => by
    obtain ⟨v, rfl, p⟩ := rp1 pp
    exact ⟨x, by rw [strOf p], Nat.le_trans hl (by decide), epost R (r := .sh (.int _)) (.int _) q⟩
theorem cv_len {ds : List Da} (w : VwSeq rs r1 ds) (q : Q (.sh (.int ds.length)) rs) : CV X (.builtin "len") [r1] rs Q :=
  cv_of call_len_seq fun T H vs R pp => by
    obtain ⟨v, rfl, p⟩ := rp1 pp
    obtain ⟨a, vs, e, hs, rp⟩ := w.rp R p
    exact ⟨a, vs, by rw [e], hs, by rw [rp.len]; exact epost R (r := .sh (.int _)) (.int _) q⟩
theorem cv_str (hb : i.natAbs.log2 < 1920) (q : Q (.sh (.str (toString i))) rs) : CV X (.type "str") [.sh (.int i)] rs Q :=
  cv_of call_str_int fun T H vs R pp => by
    obtain ⟨v, rfl, p⟩ := rp1 pp
    exact ⟨i, by rw [intOf p], hb, epost R (r := .sh (.str _)) (.str _) q⟩
theorem cv_intS (h : PySem.intText? x = some i) (hl : x.length ≤ 640) (q : Q (.sh (.int i)) rs) : CV X (.type "int") [.sh (.str x)] rs Q :=
  cv_of call_int_str fun T H vs R pp => by
    obtain ⟨v, rfl, p⟩ := rp1 pp
    exact ⟨x, i, by rw [strOf p], h, hl, epost R (r := .sh (.int _)) (.int _) q⟩
theorem cv_intB {b : Bool} (q : Q (.sh (.int (if b then 1 else 0))) rs) : CV X (.type "int") [.sh (.bl b)] rs Q :=
  cv_of call_int1 fun T H vs R pp => by
    obtain ⟨v, rfl, p⟩ := rp1 pp
    exact .inr ⟨b, by rw [blOf p], epost R (r := .sh (.int _)) (.int _) q⟩
theorem cv_abs (q : Q (.sh (.int (if i < 0 then -i else i))) rs) : CV X (.builtin "abs") [.sh (.int i)] rs Q :=
  cv_of call_abs fun T H vs R pp => by
    obtain ⟨v, rfl, p⟩ := rp1 pp
    exact ⟨i, by rw [intOf p], epost R (r := .sh (.int _)) (.int _) q⟩
theorem cv_max2 (hc : X.calm = true) (q : Q (.sh (.int (if j > i then j else i))) rs) : CV X (.builtin "max") [.sh (.int i), .sh (.int j)] rs Q :=
  cv_of (call_max2 hc) fun T H vs R pp => by
    obtain ⟨v, w, rfl, p, p'⟩ := rp2 pp
    exact ⟨i, j, by rw [intOf p, intOf p'], epost R (r := .sh (.int _)) (.int _) q⟩
theorem cv_min2 (hc : X.calm = true) (q : Q (.sh (.int (if j < i then j else i))) rs) : CV X (.builtin "min") [.sh (.int i), .sh (.int j)] rs Q :=
  cv_of (call_min2 hc) fun T H vs R pp => by
    obtain ⟨v, w, rfl, p, p'⟩ := rp2 pp
    exact ⟨i, j, by rw [intOf p, intOf p'], epost R (r := .sh (.int _)) (.int _) q⟩
theorem bools_of {K : PySem.W.Frag} {H : Hp} : ∀ {vs : List V} {bs : List Bool}, Rps K H vs (bs.map Da.bl) → vs = bs.map V.bl
  | [], [], _ => rfl
  | _, _ :: _, .cons (.bl _) t => by rw [bools_of t]; rfl
theorem cv_all (hc : X.calm = true) {bs : List Bool} (w : Vw rs r1 (.lst (bs.map Da.bl))) (q : Q (.sh (.bl (bs.all id))) rs) : CV X (.builtin "all") [r1] rs Q :=
  cv_of (cr_all hc) fun T H vs R pp => by
    obtain ⟨v, rfl, p⟩ := rp1 pp
    obtain ⟨a, vs, e, hs, rp⟩ := w.lstv R p
    have e2 := bools_of rp
    subst e2
    exact ⟨a, bs, by rw [e], hs, epost R (r := .sh (.bl _)) (.bl _) q⟩
/-- the name of data's type -/
def tyn : Da → String
  | .non => "NoneType" | .bl _ => "bool" | .int _ => "int" | .str _ => "str" | .tup _ => "tuple" | .tupK _ => "tuple" | .lst _ => "list" | .lstK _ => "list" | .dT _ => "dict" | .dK _ => "dict" | _ => ""
theorem tyx {K : PySem.W.Frag} {H : Hp} {v : V} {d : Da} (h : Rp K H v d) (hd : tyn d ≠ "") : TyX K H v (.type (tyn d)) := by
  cases h with
  | non => exact .base .non
  | bl b => exact .base (.bl b)
  | int b => exact .base (.int b)
  | str b => exact .base (.str b)
  | ty n => exact absurd rfl hd
  | adr n => exact absurd rfl hd
  | dL _ _ => exact absurd rfl hd
  | exn _ _ _ => exact absurd rfl hd
  | tup a b => exact .base (.tup a)
  | tupK a b =>
    rcases a with (a | ⟨o, a⟩) | ⟨o, its, n, h1, h2, _⟩
    · exact .base (.tup a)
    · exact .fTuple a
    · exact .kTuple h1 h2
  | lst a b => exact .base (.lst a)
  | lstK a b =>
    rcases a with (a | ⟨o, a⟩) | ⟨o, its, n, h1, h2, _⟩
    · exact .base (.lst a)
    · exact .base (.frz a)
    · exact .kList h1 h2
  | dT a b => exact .base (.dT a)
  | dK a b => exact .base (.dK a)
  | ins a b => exact absurd rfl hd
theorem cv_isi {d : Da} {n : String} {b : Bool} (w : Vw rs r1 d) (hd : tyn d ≠ "") (hb : kitB (tyn d) n = some b) (q : Q (.sh (.bl b)) rs) : CV X (.builtin "isinstance") [r1, .sh (.ty n)] rs Q :=
  cv_of call_isi fun T H vs R pp => by
    obtain ⟨v, w', rfl, p, p'⟩ := rp2 pp
    cases p'
    exact ⟨v, .ty n, _, .type n, b, rfl, .ty n, tyx (w.rp R p) hd, kit_ty hb, epost R (r := .sh (.bl b)) (.bl _) q⟩
end
end DL

set_option Elab.async false
set_option linter.all false
set_option maxRecDepth 100000
set_option maxHeartbeats 4000000
namespace DL
open PySem PySem.Spec L2
open PyProof.Rows (envOfC)

/-! ## contracts -/
/-- what a def is worth: its arguments, the things among them, what is wanted of the answer and of the things behind it -/
abbrev Ct := List Rv → List Res → EQ → Prop
def cSp (K : PySem.W.Frag) (c : Ct) : Sp := fun vs H Q _ => ∃ T rs as, RepH K T rs H ∧ RpVs K T vs as ∧ c as rs fun r rs' => ∀ v T' H', T.le T' → RepH K T' rs' H' → RpV K T' v r → Q v H'
def slots (N : List Str) (as : List Rv) : Sl := as.map some ++ List.replicate (N.length - as.length) none
theorem slots_ok {K : PySem.W.Frag} {T : Tw} {N : List Str} {vs : List V} {as : List Rv} (h : RpVs K T vs as) : SlOk K T (slots N as) (L2.start N vs) := by
  have hl := h.len
  refine ⟨?_, fun i r e => ?_⟩
  · unfold slots L2.start
    rw [List.length_append, List.length_append, List.length_map, List.length_map, List.length_replicate, List.length_replicate, hl]
  · have go : ∀ {vs : List V} {as : List Rv} {i : Nat}, RpVs K T vs as → as[i]? = some r → ∃ v, vs[i]? = some v ∧ RpV K T v r := by
      intro vs as i h
      induction h generalizing i with
      | nil => intro e; simp at e
      | cons a b ih =>
        intro e
        cases i with
        | zero => simp at e; subst e; exact ⟨_, rfl, a⟩
        | succ i => obtain ⟨v, h1, h2⟩ := ih (by simpa using e); exact ⟨v, by simpa using h1, h2⟩
    unfold slots at e
    by_cases hi : i < as.length
    · rw [List.getElem?_append_left (by simpa using hi), List.getElem?_map] at e
      cases e2 : as[i]? with
      | none => rw [e2] at e; cases e
      | some q =>
        rw [e2] at e
        have e3 : q = r := Option.some.inj (Option.some.inj e)
        rw [e3] at e2
        obtain ⟨v, h1, h2⟩ := go h e2
        refine ⟨v, ?_, h2⟩
        unfold L2.start
        rw [List.getElem?_append_left (by rw [List.length_map]; omega), List.getElem?_map, h1]; rfl
    · rw [List.getElem?_append_right (by rw [List.length_map]; omega), List.getElem?_replicate] at e
      split at e <;> cases e
/-! ## the world of a callee -/
theorem ResOk.ren {K : PySem.W.Frag} {T T' : Tw} {H H' : Hp} {k k' : Nat} {r : Res} (h0 : Kp T.H0 T'.H0) (ad : T'.ad k' = T.ad k) (hs : ∀ a, T.own a = some k → T'.own a = some k' ∧ ∀ o, H a = some o → H' a = some o) (hc : r.cl = true) (h : ResOk K T H k r) : ResOk K T' H' k' r := by
  cases r with
  | lstR _ => cases hc
  | dKR _ => cases hc
  | off => trivial
  | lst ds =>
    obtain ⟨h1, vs, h2, h3⟩ := h
    show T'.own (T'.ad k') = some k' ∧ ∃ vs, H' (T'.ad k') = some (.lst vs) ∧ Rps K T'.H0 vs ds
    rw [ad]
    exact ⟨(hs _ h1).1, vs, (hs _ h1).2 _ h2, h3.mono h0⟩
  | dT ds =>
    obtain ⟨h1, vs, h2, h3⟩ := h
    show T'.own (T'.ad k') = some k' ∧ ∃ vs, H' (T'.ad k') = some (.dT vs) ∧ RpT K T'.H0 vs ds
    rw [ad]
    exact ⟨(hs _ h1).1, vs, (hs _ h1).2 _ h2, h3.mono h0⟩
  | dK ds =>
    obtain ⟨h1, vs, h2, h3⟩ := h
    show T'.own (T'.ad k') = some k' ∧ ∃ vs, H' (T'.ad k') = some (.dK vs) ∧ RpS K T'.H0 vs ds
    rw [ad]
    exact ⟨(hs _ h1).1, vs, (hs _ h1).2 _ h2, h3.mono h0⟩
  | ins C ds =>
    obtain ⟨h1, dx, fs, h2, h3, h4, h5⟩ := h
    show T'.own (T'.ad k') = some k' ∧ ∃ dx fs, T'.own dx = some k' ∧ H' dx = some (.own (T'.ad k')) ∧ H' (T'.ad k') = some (.ins C dx fs) ∧ RpF K T'.H0 fs ds
    rw [ad]
    exact ⟨(hs _ h1).1, dx, fs, (hs _ h2).1, (hs _ h2).2 _ h3, (hs _ h1).2 _ h4, h5.mono h0⟩
  | frz d =>
    show Rp K T'.H0 (.ref (T'.ad k')) d
    rw [ad]
    exact Rp.mono h0 h
  | tray κ n =>
    obtain ⟨h1, h2⟩ := h
    show T'.own (T'.ad k') = some k' ∧ TrayOk (fun a => T'.own a = some k') H' (T'.ad k') n κ
    rw [ad]
    exact ⟨(hs _ h1).1, h2.keep h1 hs⟩
  | exc dd d =>
    obtain ⟨fs, v, h1, h2, h3⟩ := h
    exact ⟨fs, v, h0 _ _ h1, h2, h3.mono h0⟩
/-- the last things dropped -/
theorem RepH.trim {K : PySem.W.Frag} {T0 T : Tw} {rs : List Res} {H : Hp} {m : Nat} (R : RepH K T rs H) (l : T0.le T) (h0 : T0.n ≤ m) (hm : m ≤ rs.length) (hcl : (rs.take m).all Res.cl = true) :
    ∃ T', T0.le T' ∧ RepH K T' (rs.take m) H ∧ T'.H0 = T.H0 ∧ T'.n = m ∧ T'.ad = T.ad := by
  refine ⟨{ T with own := fun a => match T.own a with | some k => if k < m then some k else none | none => none, n := m }, ⟨l.h0, l.fr, h0, l.ad⟩, ⟨by rw [List.length_take]; show min m rs.length = m; omega, R.h0, R.fr, fun a k e => ?_, R.df, fun k r e => ?_, R.tu⟩, rfl, rfl, rfl⟩
  · have e : (match T.own a with | some k => if k < m then some k else none | none => none) = some k := e
    cases q : T.own a with
    | none => rw [q] at e; cases e
    | some j =>
      rw [q] at e
      have e : (if j < m then some j else none) = some k := e
      split at e
      · cases e; exact R.dj a k q
      · cases e
  · have hk : k < m := by have := (List.getElem?_eq_some_iff.mp e).1; rw [List.length_take] at this; omega
    have hr : r.cl = true := List.all_eq_true.mp hcl r (List.mem_of_getElem? e)
    rw [List.getElem?_take_of_lt hk] at e
    refine ResOk.ren (T := T) (k := k) (k' := k) (.refl _) rfl (fun a ha => ⟨?_, fun _ q => q⟩) hr (R.rs k r e)
    show (match T.own a with | some k => if k < m then some k else none | none => none) = some k
    rw [ha]
    show (if k < m then some k else none) = some k
    rw [if_pos hk]
def Rv.lt (m : Nat) : Rv → Prop
  | .sh _ => True
  | .rf k => k < m
/-! ## the same things told otherwise -/
def Gh (K : PySem.W.Frag) (rs rs' : List Res) : Prop := ∀ T H, RepH K T rs H → ∃ T', T.le T' ∧ RepH K T' rs' H
theorem Gh.refl {K : PySem.W.Frag} {rs : List Res} : Gh K rs rs := fun T H R => ⟨T, .refl T, R⟩
theorem Gh.trans {K : PySem.W.Frag} {a b c : List Res} (h : Gh K a b) (h' : Gh K b c) : Gh K a c := fun T H R => by
  obtain ⟨T1, l1, R1⟩ := h T H R
  obtain ⟨T2, l2, R2⟩ := h' T1 H R1
  exact ⟨T2, l1.trans l2, R2⟩
/-- wanted of the answer and the first things -/
def Trim (K : PySem.W.Frag) (n0 : Nat) (Q : EQ) : EQ := fun r0 rs0 => ∃ rs, Gh K rs0 rs ∧ ∃ m r, n0 ≤ m ∧ m ≤ rs.length ∧ (rs.take m).all Res.cl = true ∧ (r = r0 ∨ ∃ k d, r0 = .rf k ∧ rs[k]? = some (.frz d) ∧ r = .sh d) ∧ r.lt m ∧ Q r (rs.take m)
theorem trim_of {K : PySem.W.Frag} {n0 : Nat} {Q : EQ} {r : Rv} {rs : List Res} (m : Nat) (q : Q r (rs.take m)) (h1 : n0 ≤ m := by simp) (h2 : m ≤ rs.length := by simp) (h3 : (rs.take m).all Res.cl = true := by rfl) (h4 : r.lt m := by first | trivial | (show _ < _; decide) | (show _ < _; simp)) : Trim K n0 Q r rs := ⟨rs, .refl, m, r, h1, h2, h3, .inl rfl, h4, q⟩
theorem trim_gh {K : PySem.W.Frag} {n0 : Nat} {Q : EQ} {r : Rv} {rs0 rs : List Res} (g : Gh K rs0 rs) (m : Nat) (q : Q r (rs.take m)) (h1 : n0 ≤ m := by simp) (h2 : m ≤ rs.length := by simp) (h3 : (rs.take m).all Res.cl = true := by rfl) (h4 : r.lt m := by first | trivial | (show _ < _; decide) | (show _ < _; simp)) : Trim K n0 Q r rs0 := ⟨rs, g, m, r, h1, h2, h3, .inl rfl, h4, q⟩
/-- a list of ours is handed back, to stay -/
theorem trim_lst {K : PySem.W.Frag} {n0 : Nat} {Q : EQ} {k : Nat} {ds : List Da} {rs : List Res} (m : Nat) (h : rs[k]? = some (.lst ds)) (q : Q (.sh (.lst ds)) ((rs.set k (.frz (.lst ds))).take m)) (h1 : n0 ≤ m := by simp) (h2 : m ≤ rs.length := by simp) (h3 : ((rs.set k (.frz (.lst ds))).take m).all Res.cl = true := by rfl) : Trim K n0 Q (.rf k) rs :=
  ⟨_, fun T H R => R.freeze h, m, .sh (.lst ds), h1, by rw [List.length_set]; exact h2, h3, .inr ⟨k, _, rfl, List.getElem?_set_self (List.getElem?_eq_some_iff.mp h).1, rfl⟩, trivial, q⟩
theorem RpV.frzd {K : PySem.W.Frag} {T : Tw} {H : Hp} {v : V} {r0 r : Rv} {rs : List Res} (R : RepH K T rs H) (h : RpV K T v r0) (e : r = r0 ∨ ∃ k d, r0 = .rf k ∧ rs[k]? = some (.frz d) ∧ r = .sh d) : RpV K T v r := by
  rcases e with e | ⟨k, d, e1, e2, e3⟩
  · rw [e]; exact h
  · subst e1 e3
    have q := R.rs _ _ e2
    show Rp K T.H0 v d
    rw [h.2]; exact q
theorem RpV.trim {K : PySem.W.Frag} {T T' : Tw} {v : V} {r : Rv} {m : Nat} (h : RpV K T v r) (h0 : T'.H0 = T.H0) (hn : T'.n = m) (ha : T'.ad = T.ad) (hl : r.lt m) : RpV K T' v r := by
  cases r with
  | sh d => show Rp K T'.H0 v d; rw [h0]; exact h
  | rf k => exact ⟨by rw [hn]; exact hl, by rw [ha]; exact h.2⟩
section
variable {P : Program} {w : World} {K : PySem.W.Frag} {mg : Str → Option Value} {base : Heap}
theorem fnD {x qual : Str} {st : Stmt} {f : Addr} {fd : FuncData} {N ps : List Str} {k : Nat} {c : Ct} (F : Fun K x qual st f fd) (S : FnScope N ps (defScope st)) (hl : ∀ as rs Q, c as rs Q → as.length = ps.length)
    (hb : ∀ (cdv : Value) (A : Around) (outer : List Env) (s : Shared) (H : Hp) (E : XK) (as : List Rv) (rs : List Res) (Q : EQ), Room k (A.deeper (envOfC qual (defScope st) s.heap.objs.size f cdv)) → c as rs Q →
      SW (cxOf CX0 P w K mg base N qual (defScope st) f cdv A outer s H E).nox (slots N as) (defBody st) rs { nx := fun _ rs' => Trim K rs.length Q (.sh .non) rs', rt := Trim K rs.length Q }) : FnOk P w K mg base CX0 (k + 1) f fd ps (cSp K c) := by
  refine F.ok S (fun vs H Q E h => ?_) (fun cdv A outer s H vs Q E hr h => ?_)
  · obtain ⟨T, rs, as, _, h2, h3⟩ := h
    rw [h2.len]; exact hl _ _ _ h3
  · obtain ⟨T, rs, as, h1, h2, h3⟩ := h
    refine ⟨_, pss_S, (hb cdv A outer s H E as rs _ hr h3 T (L2.start N vs) H h1 (slots_ok h2)).mono ⟨fun σ H' q => ?_, fun v H' q => ?_, fun _ _ q => ?_, fun _ _ q => ?_⟩⟩
    · obtain ⟨T', sl', rs0, l, R, _, rs', g, m, r, m1, m2, m3, e0, m4, q⟩ := q
      obtain ⟨T', l', R⟩ := g T' H' R
      have l := l.trans l'
      obtain ⟨T2, l2, R2, _⟩ := R.trim l (by rw [← h1.n]; exact m1) m2 m3
      have e0 : r = .sh .non := e0.elim id fun ⟨k, d, z, _⟩ => nomatch z
      subst e0
      exact q .non T2 H' l2 R2 .non
    · obtain ⟨T', rs0, r0, l, R, p, rs', g, m, r, m1, m2, m3, e0, m4, q⟩ := q
      obtain ⟨T', l', R⟩ := g T' H' R
      have l := l.trans l'
      have p := (p.le l').frzd R e0
      obtain ⟨T2, l2, R2, e1, e2, e3⟩ := R.trim l (by rw [← h1.n]; exact m1) m2 m3
      exact q v T2 H' l2 R2 (p.trim e1 e2 e3 m4)
    · obtain ⟨_, _, _, _, _, _, q⟩ := q; exact q.elim
    · obtain ⟨_, _, _, _, _, _, q⟩ := q; exact q.elim
end

def frC (T : Tw) (H : Hp) (oc : Addr → Option Nat) : Hp := fun a => if (T.H0 a).isSome = true ∨ (oc a).isSome = true then none else H a
section
variable {K : PySem.W.Frag} {T Tc : Tw} {H H' : Hp} {rs rsc : List Res}
/-- nothing that may change is handed over -/
def Tw.call0 (T : Tw) (H : Hp) : Tw := { H0 := T.H0, Fr := frC T H (fun _ => none), own := fun _ => none, n := 0, ad := fun _ => 0 }
theorem RepH.call0 (R : RepH K T rs H) : RepH K (T.call0 H) [] H := by
  refine ⟨rfl, R.h0, fun a o e => ?_, fun a k e => (nomatch e), fun a o e => ?_, fun k r e => by simp at e, R.tu⟩
  · have e : (if (T.H0 a).isSome = true ∨ ((none : Option Nat)).isSome = true then none else H a) = some o := e
    split at e
    · cases e
    · exact e
  · show (if (T.H0 a).isSome = true ∨ ((none : Option Nat)).isSome = true then none else H a) = none
    have e : T.H0 a = some o := e
    rw [if_pos (.inl (by rw [e]; rfl))]
def Tw.back0 (T Tc : Tw) : Tw := { H0 := Tc.H0, Fr := T.Fr, own := fun a => match Tc.own a with | some i => some (T.n + i) | none => T.own a, n := T.n + Tc.n, ad := fun k => if k < T.n then T.ad k else Tc.ad (k - T.n) }
theorem RepH.back0 (R : RepH K T rs H) (l : (T.call0 H).le Tc) (Rc : RepH K Tc rsc H') (hcl : rsc.all Res.cl = true) : RepH K (T.back0 Tc) (rs ++ rsc) H' ∧ T.le (T.back0 Tc) := by
  have frk : ∀ a o, H a = some o → T.H0 a = none → Tc.Fr a = some o := fun a o e h => by
    rw [l.fr]
    show (if (T.H0 a).isSome = true ∨ ((none : Option Nat)).isSome = true then none else H a) = some o
    rw [if_neg (by rw [h]; simp), e]
  have frT : ∀ a o, T.Fr a = some o → Tc.Fr a = some o := fun a o e => by
    refine frk a o (R.fr a o e) ?_
    cases h : T.H0 a with
    | none => rfl
    | some u => have := R.df a u h; rw [this] at e; cases e
  have ownK : ∀ a k, T.own a = some k → ∃ o, H a = some o ∧ Tc.Fr a = some o ∧ Tc.own a = none := fun a k e => by
    obtain ⟨h1, h2, h3⟩ := R.dj a k e
    cases h : H a with
    | none => exact absurd h h3
    | some o =>
      have f := frk a o h h1
      refine ⟨o, rfl, f, ?_⟩
      cases q : Tc.own a with
      | none => rfl
      | some i => have := (Rc.dj a i q).2.1; rw [this] at f; cases f
  have le0 : T.le (T.back0 Tc) := ⟨l.h0, rfl, Nat.le_add_right _ _, fun k hk => if_pos hk⟩
  have clk : ∀ (i : Nat) (r : Res), rsc[i]? = some r → r.cl = true := fun i r e => List.all_eq_true.mp hcl r (List.mem_of_getElem? e)
  refine ⟨⟨by rw [List.length_append, R.n, Rc.n]; rfl, Rc.h0, fun a o e => Rc.fr a o (frT a o e), fun a k e => ?_, fun a o e => ?_, fun k r e => ?_, Rc.tu⟩, le0⟩
  · have e : (match Tc.own a with | some i => some (T.n + i) | none => T.own a) = some k := e
    cases q : Tc.own a with
    | some i =>
      obtain ⟨h1, h2, h3⟩ := Rc.dj a i q
      refine ⟨h1, ?_, h3⟩
      cases f : T.Fr a with
      | none => exact f
      | some o => have := frT a o f; rw [h2] at this; cases this
    | none =>
      rw [q] at e
      obtain ⟨o, h1, h2, h3⟩ := ownK a k e
      refine ⟨?_, (R.dj a k e).2.1, by rw [Rc.fr a o h2]; exact fun z => nomatch z⟩
      cases z : Tc.H0 a with
      | none => exact z
      | some u => have := Rc.df a u z; rw [h2] at this; cases this
  · show T.Fr a = none
    cases f : T.Fr a with
    | none => rfl
    | some u => have h1 := frT a u f; have h2 := Rc.df a o e; rw [h2] at h1; cases h1
  · by_cases hk : k < rs.length
    · rw [List.getElem?_append_left hk] at e
      have hk2 : k < T.n := by rw [← R.n]; exact hk
      refine ResOk.keep (T := T) (T' := T.back0 Tc) (k := k) le0 hk2 (fun a ha => ?_) (R.rs k r e)
      obtain ⟨o, h1, h2, h3⟩ := ownK a k ha
      refine ⟨by show (match Tc.own a with | some i => some (T.n + i) | none => T.own a) = some k; rw [h3]; exact ha, fun u hu => ?_⟩
      rw [h1] at hu; cases hu
      exact Rc.fr a o h2
    · rw [List.getElem?_append_right (by omega)] at e
      have hn : ¬ k < T.n := by rw [← R.n]; exact hk
      refine ResOk.ren (T := Tc) (T' := T.back0 Tc) (k := k - rs.length) (k' := k) (.refl _) (by show (if k < T.n then T.ad k else Tc.ad (k - T.n)) = _; rw [if_neg hn, R.n]) (fun a ha => ⟨?_, fun _ q => q⟩) (clk _ _ e) (Rc.rs (k - rs.length) r e)
      show (match Tc.own a with | some i => some (T.n + i) | none => T.own a) = some k
      rw [ha]
      show some (T.n + (k - rs.length)) = some k
      rw [R.n]; congr 1; omega
/-- the answer's place among ours -/
def Rv.sft (n : Nat) : Rv → Rv
  | .sh d => .sh d
  | .rf i => .rf (n + i)
theorem RpV.back0 {T Tc : Tw} {v : V} {r : Rv} (h : RpV K Tc v r) : RpV K (T.back0 Tc) v (r.sft T.n) := by
  cases r with
  | sh d => exact h
  | rf i =>
    obtain ⟨h1, h2⟩ := h
    refine ⟨Nat.add_lt_add_left h1 _, ?_⟩
    show v = .ref (if T.n + i < T.n then T.ad (T.n + i) else Tc.ad (T.n + i - T.n))
    rw [if_neg (by omega), Nat.add_sub_cancel_left]; exact h2

/-- the j-th of ours is handed over -/
def ownC (T : Tw) (j : Nat) : Addr → Option Nat := fun a => if T.own a = some j then some 0 else none
def Tw.call1 (T : Tw) (H : Hp) (j : Nat) : Tw := { H0 := T.H0, Fr := frC T H (ownC T j), own := ownC T j, n := 1, ad := fun _ => T.ad j }
theorem RepH.call1 {j : Nat} {r : Res} (R : RepH K T rs H) (hj : rs[j]? = some r) (hc : r.cl = true) : RepH K (T.call1 H j) [r] H := by
  refine ⟨rfl, R.h0, fun a o e => ?_, fun a k e => ?_, fun a o e => ?_, fun k q e => ?_, R.tu⟩
  · have e : (if (T.H0 a).isSome = true ∨ (ownC T j a).isSome = true then none else H a) = some o := e
    split at e
    · cases e
    · exact e
  · have e : (if T.own a = some j then some 0 else none) = some k := e
    split at e
    · rename_i h
      obtain ⟨h1, h2, h3⟩ := R.dj a j h
      refine ⟨h1, ?_, h3⟩
      show (if (T.H0 a).isSome = true ∨ (ownC T j a).isSome = true then none else H a) = none
      rw [if_pos (.inr (by unfold ownC; rw [if_pos h]; rfl))]
    · cases e
  · show (if (T.H0 a).isSome = true ∨ (ownC T j a).isSome = true then none else H a) = none
    have e : T.H0 a = some o := e
    rw [if_pos (.inl (by rw [e]; rfl))]
  · cases k with
    | zero =>
      have e : r = q := Option.some.inj e
      subst e
      exact ResOk.ren (T := T) (T' := T.call1 H j) (k := j) (k' := 0) (.refl _) rfl (fun a ha => ⟨if_pos ha, fun _ q => q⟩) hc (R.rs j r hj)
    | succ k => simp at e
def Tw.back1 (T Tc : Tw) (j : Nat) : Tw := { H0 := Tc.H0, Fr := T.Fr, own := fun a => match Tc.own a with | some 0 => some j | some (i + 1) => some (T.n + i) | none => if T.own a = some j then none else T.own a, n := T.n + (Tc.n - 1), ad := fun k => if k < T.n then T.ad k else Tc.ad (k - T.n + 1) }
theorem RepH.back1 {j : Nat} {r r' : Res} (R : RepH K T rs H) (hj : rs[j]? = some r) (l : (T.call1 H j).le Tc) (Rc : RepH K Tc (r' :: rsc) H') (hcl : (r' :: rsc).all Res.cl = true) : RepH K (T.back1 Tc j) (rs.set j r' ++ rsc) H' ∧ T.le (T.back1 Tc j) := by
  have jl : j < rs.length := (List.getElem?_eq_some_iff.mp hj).1
  have jn : j < T.n := by rw [← R.n]; exact jl
  have ad0 : Tc.ad 0 = T.ad j := l.ad 0 (Nat.zero_lt_one)
  have nc : Tc.n = rsc.length + 1 := by rw [← Rc.n]; rfl
  have frk : ∀ a o, H a = some o → T.H0 a = none → T.own a ≠ some j → Tc.Fr a = some o := fun a o e h hn => by
    rw [l.fr]
    show (if (T.H0 a).isSome = true ∨ (ownC T j a).isSome = true then none else H a) = some o
    rw [if_neg (by unfold ownC; rw [h, if_neg hn]; simp), e]
  have frT : ∀ a o, T.Fr a = some o → Tc.Fr a = some o := fun a o e => by
    refine frk a o (R.fr a o e) ?_ fun z => ?_
    · cases h : T.H0 a with
      | none => rfl
      | some u => have := R.df a u h; rw [this] at e; cases e
    · have := (R.dj a j z).2.1; rw [this] at e; cases e
  have ownK : ∀ a k, T.own a = some k → k ≠ j → ∃ o, H a = some o ∧ Tc.Fr a = some o ∧ Tc.own a = none := fun a k e hk => by
    obtain ⟨h1, h2, h3⟩ := R.dj a k e
    cases h : H a with
    | none => exact absurd h h3
    | some o =>
      have f := frk a o h h1 (fun z => hk (Option.some.inj (e.symm.trans z)))
      refine ⟨o, rfl, f, ?_⟩
      cases q : Tc.own a with
      | none => rfl
      | some i => have := (Rc.dj a i q).2.1; rw [this] at f; cases f
  have own2 : ∀ a, (T.back1 Tc j).own a = (match Tc.own a with | some 0 => some j | some (i + 1) => some (T.n + i) | none => if T.own a = some j then none else T.own a) := fun _ => rfl
  have le0 : T.le (T.back1 Tc j) := ⟨l.h0, rfl, Nat.le_add_right _ _, fun k hk => if_pos hk⟩
  have clk : ∀ (i : Nat) (r : Res), (r' :: rsc)[i]? = some r → r.cl = true := fun i r e => List.all_eq_true.mp hcl r (List.mem_of_getElem? e)
  refine ⟨⟨by rw [List.length_append, List.length_set, R.n]; show T.n + rsc.length = T.n + (Tc.n - 1); omega, Rc.h0, fun a o e => Rc.fr a o (frT a o e), fun a k e => ?_, fun a o e => ?_, fun k q e => ?_, Rc.tu⟩, le0⟩
  · have cs : (∃ i, Tc.own a = some i) ∨ (Tc.own a = none ∧ T.own a = some k ∧ k ≠ j) := by
      rw [own2] at e
      cases q : Tc.own a with
      | some i => exact .inl ⟨i, rfl⟩
      | none =>
        rw [q] at e
        have e : (if T.own a = some j then none else T.own a) = some k := e
        split at e
        · cases e
        · rename_i h; exact .inr ⟨rfl, e, fun z => h (by rw [← z]; exact e)⟩
    rcases cs with ⟨i, q⟩ | ⟨q, e2, hk⟩
    · obtain ⟨h1, h2, h3⟩ := Rc.dj a i q
      refine ⟨h1, ?_, h3⟩
      cases f : T.Fr a with
      | none => exact f
      | some o => have := frT a o f; rw [h2] at this; cases this
    · obtain ⟨o, h1, h2, h3⟩ := ownK a k e2 hk
      refine ⟨?_, (R.dj a k e2).2.1, by rw [Rc.fr a o h2]; exact fun z => nomatch z⟩
      cases z : Tc.H0 a with
      | none => exact z
      | some u => have := Rc.df a u z; rw [h2] at this; cases this
  · show T.Fr a = none
    cases f : T.Fr a with
    | none => rfl
    | some u => have h1 := frT a u f; have h2 := Rc.df a o e; rw [h2] at h1; cases h1
  · by_cases hk : k < rs.length
    · rw [List.getElem?_append_left (by rw [List.length_set]; exact hk)] at e
      have hk2 : k < T.n := by rw [← R.n]; exact hk
      by_cases hkj : j = k
      · subst hkj
        rw [List.getElem?_set_self jl] at e
        have e : r' = q := Option.some.inj e
        subst e
        refine ResOk.ren (T := Tc) (T' := T.back1 Tc j) (k := 0) (k' := j) (.refl _) (by show (if j < T.n then T.ad j else _) = _; rw [if_pos hk2, ad0]) (fun a ha => ⟨?_, fun _ q => q⟩) (clk 0 r' rfl) (Rc.rs 0 r' rfl)
        rw [own2, ha]
      · rw [List.getElem?_set_ne hkj] at e
        refine ResOk.keep (T := T) (T' := T.back1 Tc j) (k := k) le0 hk2 (fun a ha => ?_) (R.rs k q e)
        obtain ⟨o, h1, h2, h3⟩ := ownK a k ha (Ne.symm hkj)
        refine ⟨?_, fun u hu => ?_⟩
        · rw [own2, h3]
          show (if T.own a = some j then none else T.own a) = some k
          rw [if_neg (by rw [ha]; exact fun z => hkj (Option.some.inj z).symm)]; exact ha
        · rw [h1] at hu; cases hu
          exact Rc.fr a o h2
    · rw [List.getElem?_append_right (by rw [List.length_set]; omega), List.length_set] at e
      have hn : ¬ k < T.n := by rw [← R.n]; exact hk
      refine ResOk.ren (T := Tc) (T' := T.back1 Tc j) (k := k - rs.length + 1) (k' := k) (.refl _) (by show (if k < T.n then T.ad k else Tc.ad (k - T.n + 1)) = _; rw [if_neg hn, R.n]) (fun a ha => ⟨?_, fun _ q => q⟩) (clk (k - rs.length + 1) q (by rw [List.getElem?_cons_succ]; exact e)) (Rc.rs (k - rs.length + 1) q (by rw [List.getElem?_cons_succ]; exact e))
      rw [own2, ha]
      show some (T.n + (k - rs.length)) = some k
      rw [R.n]; congr 1; omega
def Rv.sft1 (n j : Nat) : Rv → Rv
  | .sh d => .sh d
  | .rf 0 => .rf j
  | .rf (i + 1) => .rf (n + i)
theorem RpV.back1 {T Tc : Tw} {v : V} {r : Rv} {j : Nat} (hj : j < T.n) (l : (T.call1 H j).le Tc) (h : RpV K Tc v r) : RpV K (T.back1 Tc j) v (r.sft1 T.n j) := by
  match r, h with
  | .sh d, h => exact h
  | .rf 0, ⟨h1, h2⟩ =>
    refine ⟨Nat.lt_of_lt_of_le hj (Nat.le_add_right _ _), ?_⟩
    show v = .ref (if j < T.n then T.ad j else _)
    rw [if_pos hj, h2, l.ad 0 Nat.zero_lt_one]
    rfl
  | .rf (i + 1), ⟨h1, h2⟩ =>
    refine ⟨by show T.n + i < T.n + (Tc.n - 1); omega, ?_⟩
    show v = .ref (if T.n + i < T.n then T.ad (T.n + i) else Tc.ad (T.n + i - T.n + 1))
    rw [if_neg (by omega), Nat.add_sub_cancel_left]; exact h2
end
/-- the arguments as the callee sees them: the j-th of ours is its 0-th -/
inductive Sub1 (rs : List Res) (j : Nat) : List Rv → List Rv → Prop
  | nil : Sub1 rs j [] []
  | sh {d : Da} {as bs : List Rv} : Sub1 rs j as bs → Sub1 rs j (.sh d :: as) (.sh d :: bs)
  | rf {as bs : List Rv} : Sub1 rs j as bs → Sub1 rs j (.rf j :: as) (.rf 0 :: bs)
  | frz {k : Nat} {d : Da} {as bs : List Rv} : rs[k]? = some (.frz d) → Sub1 rs j as bs → Sub1 rs j (.rf k :: as) (.sh d :: bs)
theorem Sub1.rp {K : PySem.W.Frag} {T : Tw} {H : Hp} {rs : List Res} {j : Nat} (R : RepH K T rs H) : ∀ {as bs : List Rv} {vs : List V}, Sub1 rs j as bs → RpVs K T vs as → RpVs K (T.call1 H j) vs bs
  | _, _, _, .nil, .nil => .nil
  | _, _, _, .sh t, .cons p q => .cons p (Sub1.rp R t q)
  | _, _, _, .rf t, .cons p q => .cons ⟨Nat.zero_lt_one, p.2⟩ (Sub1.rp R t q)
  | _, _, _, .frz e t, .cons p q => .cons (show Rp K T.H0 _ _ by rw [p.2]; exact R.rs _ _ e) (Sub1.rp R t q)
theorem Shs.call0 {K : PySem.W.Frag} {T : Tw} {H : Hp} {rs : List Res} (R : RepH K T rs H) : ∀ {as : List Rv} {ds : List Da} {vs : List V}, Shs rs as ds → RpVs K T vs as → RpVs K (T.call0 H) vs (ds.map Rv.sh)
  | _, _, _, .nil, .nil => .nil
  | _, _, _, .cons t, .cons p q => .cons p (Shs.call0 R t q)
  | _, _, _, .frz e t, .cons p q => .cons (show Rp K T.H0 _ _ by rw [p.2]; exact R.rs _ _ e) (Shs.call0 R t q)

/-- a call of a def with such arguments -/
inductive Kc (c : Ct) (as : List Rv) (rs : List Res) (Q : EQ) : Prop
  | pure {ds : List Da} : Shs rs as ds → c (ds.map Rv.sh) [] (fun r rs' => rs'.all Res.cl = true ∧ Q (r.sft rs.length) (rs ++ rs')) → Kc c as rs Q
  | one {j : Nat} {r0 : Res} {bs : List Rv} : rs[j]? = some r0 → r0.cl = true → Sub1 rs j as bs → c bs [r0] (fun r rs' => ∃ r1 new, rs' = r1 :: new ∧ (r1 :: new).all Res.cl = true ∧ Q (r.sft1 rs.length j) (rs.set j r1 ++ new)) → Kc c as rs Q
theorem Kc.sp {K : PySem.W.Frag} {T : Tw} {H : Hp} {c : Ct} {as : List Rv} {rs : List Res} {vs : List V} {Q : EQ} {E : XK} (h : Kc c as rs Q) (R : RepH K T rs H) (p : RpVs K T vs as)
    (mono : ∀ as rs (P Q : EQ), (∀ r rs', P r rs' → Q r rs') → c as rs P → c as rs Q) : cSp K c vs H (EPost K T Q) E := by
  cases h with
  | pure sh hc =>
    refine ⟨T.call0 H, [], _, R.call0, sh.call0 R p, mono _ _ _ _ (fun r rs' q v T' H' l R' p' => ?_) hc⟩
    obtain ⟨qc, q⟩ := q
    obtain ⟨R2, l2⟩ := R.back0 l R' qc
    have p2 := p'.back0 (T := T)
    rw [← R.n] at p2
    exact ⟨_, _, _, l2, R2, p2, q⟩
  | one hj hj2 sb hc =>
    refine ⟨T.call1 H _, _, _, R.call1 hj hj2, sb.rp R p, mono _ _ _ _ (fun r rs' q v T' H' l R' p' => ?_) hc⟩
    obtain ⟨r1, new, e, qc, q⟩ := q
    subst e
    obtain ⟨R2, l2⟩ := R.back1 hj l R' qc
    have p2 := p'.back1 (by rw [← R.n]; exact (List.getElem?_eq_some_iff.mp hj).1) l
    rw [← R.n] at p2
    exact ⟨_, _, _, l2, R2, p2, q⟩
/-- wants may be widened -/
def Mono (c : Ct) : Prop := ∀ as rs (P Q : EQ), (∀ r rs', P r rs' → Q r rs') → c as rs P → c as rs Q

/-- a def as it stands, with its contract -/
structure FnC (P : Program) (w : World) (K : PySem.W.Frag) (mg : Str → Option Value) (base : Heap) (x : Str) (ps : List Str) (k : Nat) (c : Ct) : Prop where
  ex : ∃ f fd, mg x = some (.ref f) ∧ PySem.W.keepIn K (.ref f) = true ∧ Binds K fd ps [] ∧ FnOk P w K mg base CX0 k f fd ps (cSp K c)
  mono : Mono c
section
variable {X : Cx} {sl : Sl} {rs : List Res} {Q : EQ} {e : Expr} {es : List Expr} {x : Str} {p pos : Pos} {c : Ct} {k : Nat} {ps : List Str}
theorem ew_call (F : FnC X.prog X.w X.K X.mg X.base x ps k c) (hr : Room k X.A) (h : AW X sl (e :: es) rs fun as rs1 => Kc c as rs1 Q) (hg : Gl X x := by rfl)
    (hdb : (x == ("__debug__" : Str)) = false := by decide) (he : starEach (e :: es) X.env = (false, eval e X.env) :: starEach es X.env := by rfl) (hpl : (backTo pos (starEach es X.env)).any (·.1) = false := by rfl) : EW X sl (.Call (.Name x p) (e :: es) [] pos) rs Q := by
  obtain ⟨f, fd, hm, hk, hb, G⟩ := F.ex
  refine ew_of (pe_call G hr hg hm hk hb .nil pass0 pa_S hdb he hpl) fun T σ H R S => thenA h R S fun T1 rs1 as vs H1 l1 R1 p1 q1 => ?_
  have q := Kc.sp (E := E0) q1 R1 p1 F.mono
  show cSp X.K c (vs ++ []) H1 (EPost X.K T Q) E0
  rw [List.append_nil]
  obtain ⟨T', rs', as', a, b, d⟩ := q
  exact ⟨T', rs', as', a, b, F.mono _ _ _ _ (fun r rs'' q v T'' H'' l R'' p'' => (q v T'' H'' l R'' p'').le l1) d⟩
end
end DL

set_option Elab.async false
set_option linter.all false
set_option maxRecDepth 100000
set_option maxHeartbeats 4000000
namespace DL
open PySem PySem.Spec L2
open PyProof.Rows (envOfC)

/-! ## statements -/
section
variable {X : Cx} {sl : Sl} {rs : List Res} {R : Out} {st : Stmt} {sts b1 b2 : List Stmt} {e a b c : Expr} {pos : Pos}
theorem sw_nil (q : R.nx sl rs) : SW X sl [] rs R := ⟨fun T σ H hR hS pins s I => pss_nil.run pins s σ H _ I ⟨T, sl, rs, .refl T, hR, hS, q⟩⟩
theorem sw_cons (h : S1 X sl st rs { R with nx := fun sl' rs' => SW X sl' sts rs' R }) : SW X sl (st :: sts) rs R := ⟨fun T σ H hR hS pins s I =>
  (pss_cons ps_S pss_S).run pins s σ H _ I ((h T σ H hR hS).mono ⟨fun σ' H' ⟨T', sl', rs', l, R', S', q⟩ => (q T' σ' H' R' S').mono (dof.le l R), fun _ _ q => q, fun _ _ q => q, fun _ _ q => q⟩)⟩
theorem s1_of {ts : TS} (h : PS X st ts) (hw : ∀ T σ H, RepH X.K T rs H → SlOk X.K T sl σ → ts (dof X.K T R) σ H) : S1 X sl st rs R := ⟨fun T σ H a b pins s I => h.run pins s σ H _ I (hw T σ H a b)⟩
theorem s_set (i : Nat) {x : Str} {pos' : Pos} (h : EW X sl e rs fun r rs' => R.nx (sl.set i (some r)) rs') (hN : X.N.Nodup) (hi : X.N[i]? = some x := by rfl) (hx : Loc X.env.scope x := by first | exact Or.inl rfl | exact Or.inr rfl)
    (hs : swapsWith e (some (.Name x pos')) pos.line X.env = pure false := by rfl) (hf : X.fn x = true ∨ X.env.scope.names.lookup x = some .local := by first | exact .inl rfl | exact .inr rfl) : S1 X sl (.Assign [.Name x pos'] e pos) rs R :=
  s1_of (ps_set hN hi hx pe_S hs hf) fun T σ H hR S => then1 h hR S fun T1 rs1 r v H1 l R1 p q => ⟨T1, _, rs1, l, R1, (S.le l).set i p, q⟩
theorem s_ret (h : EW X sl e rs R.rt) : S1 X sl (.Return (some e) pos) rs R := s1_of (ps_ret pe_S) h.go
theorem s_retN (h : R.rt (.sh .non) rs) : S1 X sl (.Return none pos) rs R := s1_of ps_retN fun T σ H hR S => ⟨T, rs, .sh .non, .refl T, hR, .non, h⟩
theorem s_pass (h : R.nx sl rs) : S1 X sl (.Pass pos) rs R := s1_of ps_pass fun T σ H hR S => ⟨T, sl, rs, .refl T, hR, S, h⟩
theorem s_break (h : R.bk sl rs) : S1 X sl (.Break pos) rs R := s1_of ps_break fun T σ H hR S => ⟨T, sl, rs, .refl T, hR, S, h⟩
theorem s_cont (h : R.ct sl rs) : S1 X sl (.Continue pos) rs R := s1_of ps_continue fun T σ H hR S => ⟨T, sl, rs, .refl T, hR, S, h⟩
theorem s_expr (h : EW X sl e rs fun _ rs' => R.nx sl rs') (hs : swapsWith e none pos.line X.env = pure false := by rfl) : S1 X sl (.Expr e pos) rs R :=
  s1_of (ps_expr pe_S hs) fun T σ H hR S => then1 h hR S fun T1 rs1 r v H1 l R1 p q => ⟨T1, sl, rs1, l, R1, S.le l, q⟩
theorem s_if (h : TW X sl c rs fun x rs1 => (x = true → SW X sl b1 rs1 R) ∧ (x = false → SW X sl b2 rs1 R)) : S1 X sl (.If c b1 b2 pos) rs R :=
  s1_of (ps_if pt_S pss_S pss_S) fun T σ H hR S => thenT h hR S fun T1 rs1 x H1 l R1 ⟨q1, q2⟩ => by
    cases x with
    | true => exact iteT ((q1 rfl T1 σ H1 R1 (S.le l)).mono (dof.le l R))
    | false => exact iteF ((q2 rfl T1 σ H1 R1 (S.le l)).mono (dof.le l R))
/-- code that is never reached -/
theorem s_never (h : False) : S1 X sl st rs R := h.elim
/-- x op= e -/
theorem pip_S {op : Operator} : PIp X op (fun x y H Q => opS X (inplaceOp op) x y H Q) := fun pins s σ H x y v u Q I rx ry h => h pins s σ v u I rx ry
theorem s_aug (i : Nat) {x : Str} {pos' : Pos} {op : Operator} {r0 : Rv} (h0 : sl[i]? = some (some r0)) (h : EW X sl e rs fun r rs' => BV X (inplaceOp op) r0 r rs' fun r' rs2 => R.nx (sl.set i (some r')) rs2) (hN : X.N.Nodup) (hi : X.N[i]? = some x := by rfl) (hx : Loc X.env.scope x := by first | exact Or.inl rfl | exact Or.inr rfl)
    (hf : X.fn x = true ∨ X.env.scope.names.lookup x = some .local := by first | exact .inl rfl | exact .inr rfl) : S1 X sl (.AugAssign (.Name x pos') op e pos) rs R :=
  s1_of (ps_aug hN hi hx pe_S pip_S hf) fun T σ H hR S => by
    obtain ⟨v0, e0, p0⟩ := S.get i r0 h0
    exact ⟨v0, e0, then1 h hR S fun T1 rs1 r v H1 l R1 p q pins s σ' u1 u2 I i1 i2 =>
      thn (q T1 H1 v0 v R1 (p0.le l) p pins s σ' u1 u2 I i1 i2) fun _ _ ⟨v', H', I', rl, T2, rs2, r2, l2, R2, p2, q2⟩ => ⟨v', H', I', rl, T2, _, rs2, l.trans l2, R2, (S.le (l.trans l2)).set i p2, q2⟩⟩

/-! ## targets -/
def tgS (X : Cx) (tg : Expr) : TG := fun v σ H Q => ∀ (pins : List (Addr × Obj)) (s : Shared) (u : Value), Inv X pins σ H s → RelV v u → wpAny (model X.prog X.w) X.A (assign tg X.env u) (fun _ s' => ∃ σ' H', Inv X pins σ' H' s' ∧ Q σ' H') X.xe s
def tgsS (X : Cx) (ts : List Expr) : TGs := fun vs σ H Q => ∀ (pins : List (Addr × Obj)) (s : Shared) (us : List Value), Inv X pins σ H s → Vals vs us → wpAny (model X.prog X.w) X.A (assignInOrder ((assignEach ts X.env).map (·.2)) us) (fun _ s' => ∃ σ' H', Inv X pins σ' H' s' ∧ Q σ' H') X.xe s
theorem pg_S {tg : Expr} : PG X tg (tgS X tg) := ⟨fun pins s _ _ _ u _ I r h => h pins s u I r⟩
theorem pgs_S {tg : List Expr} : PGs X tg (tgsS X tg) := ⟨fun pins s _ _ _ u _ I r h => h pins s u I r⟩
theorem tgS.mono {tg : Expr} {v : V} {σ : L2.St} {H : Hp} {P Q : L2.St → Hp → Prop} (h : tgS X tg v σ H P) (k : ∀ σ' H', P σ' H' → Q σ' H') : tgS X tg v σ H Q := fun pins s u I r => thn (h pins s u I r) fun _ _ ⟨σ', H', I', q⟩ => ⟨σ', H', I', k _ _ q⟩
theorem tgsS.mono {tg : List Expr} {v : List V} {σ : L2.St} {H : Hp} {P Q : L2.St → Hp → Prop} (h : tgsS X tg v σ H P) (k : ∀ σ' H', P σ' H' → Q σ' H') : tgsS X tg v σ H Q := fun pins s u I r => thn (h pins s u I r) fun _ _ ⟨σ', H', I', q⟩ => ⟨σ', H', I', k _ _ q⟩
abbrev SQ := Sl → List Res → Prop
structure GW (X : Cx) (tg : Expr) (r : Rv) (sl : Sl) (rs : List Res) (Q : SQ) : Prop where
  go : ∀ T σ H v, RepH X.K T rs H → SlOk X.K T sl σ → RpV X.K T v r → tgS X tg v σ H (SPost X.K T Q)
structure GWs (X : Cx) (tg : List Expr) (r : List Rv) (sl : Sl) (rs : List Res) (Q : SQ) : Prop where
  go : ∀ T σ H v, RepH X.K T rs H → SlOk X.K T sl σ → RpVs X.K T v r → tgsS X tg v σ H (SPost X.K T Q)
theorem gw_name (i : Nat) {x : Str} {r : Rv} {Q : SQ} (q : Q (sl.set i (some r)) rs) (hN : X.N.Nodup) (hi : X.N[i]? = some x := by rfl) (hx : Loc X.env.scope x := by first | exact Or.inl rfl | exact Or.inr rfl)
    (hf : X.fn x = true ∨ X.env.scope.names.lookup x = some .local := by first | exact .inl rfl | exact .inr rfl) : GW X (.Name x pos) r sl rs Q := ⟨fun T σ H v hR S p pins s u I ru =>
  (pg_name hN hi hx hf).run pins s σ H v u _ I ru ⟨T, _, rs, .refl T, hR, S.set i p, q⟩⟩
theorem gws_nil {Q : SQ} (q : Q sl rs) : GWs X [] [] sl rs Q := ⟨fun T σ H v hR S p pins s u I ru => by
  cases p
  exact pgs_nil.run pins s σ H [] u _ I ru ⟨rfl, T, sl, rs, .refl T, hR, S, q⟩⟩
theorem gws_cons {tg : Expr} {tgs : List Expr} {r : Rv} {rr : List Rv} {Q : SQ} (h : GW X tg r sl rs fun sl' rs' => GWs X tgs rr sl' rs' Q) (hs : (assignEach (tg :: tgs) X.env).map (·.2) = assign tg X.env :: (assignEach tgs X.env).map (·.2) := by rfl) : GWs X (tg :: tgs) (r :: rr) sl rs Q := ⟨fun T σ H v hR S p pins s u I ru => by
  cases p with
  | cons p1 p2 =>
    refine (pgs_cons pg_S pgs_S hs).run pins s σ H _ u _ I ru ⟨_, _, rfl, (h.go T σ H _ hR S p1).mono fun σ' H' ⟨T', sl', rs', l, R', S', q⟩ => (q.go T' σ' H' _ R' S' (p2.le l)).mono fun _ _ q => q.le l⟩⟩
theorem shs_rpv {K : PySem.W.Frag} {T : Tw} : ∀ {vs : List V} {ds : List Da}, Rps K T.H0 vs ds → RpVs K T vs (ds.map Rv.sh)
  | _, _, .nil => .nil
  | _, _, .cons a t => .cons a (shs_rpv t)
theorem gw_tup {tgs : List Expr} {k : Nat} {ds : List Da} {r : Rv} {Q : SQ} (w : Vw rs r (.tup ds)) (h : GWs X tgs (ds.map Rv.sh) sl rs Q) (hl : ds.length = tgs.length := by rfl) (hc : X.calm = true := by rfl) (hn : (assignEach tgs X.env).length = tgs.length := by rfl)
    (hst : (assignEach tgs X.env).findIdx? (·.1) = none := by rfl) : GW X (.Tuple tgs k pos) r sl rs Q := ⟨fun T σ H v hR S p pins s u I ru => by
  obtain ⟨a, vs, e, ht, rp⟩ := w.tupv hR p
  exact (pg_tup hc pgs_S hn hst).run pins s σ H v u _ I ru ⟨a, vs, e, SqT.of ht, by rw [rp.len]; exact hl, h.go T σ H vs hR S (shs_rpv rp)⟩⟩
/-- a, b = e -/
theorem s_tup {tg : Expr} (h : EW X sl e rs fun r rs' => GW X tg r sl rs' R.nx) (hs : swapsWithSole [tg] e pos.line X.env = pure false := by rfl) (hw : swappedStores [tg] e X.env = pure none := by rfl)
    (h1 : (assignEach [tg] X.env).map (·.2) = [assign tg X.env] := by rfl) : S1 X sl (.Assign [tg] e pos) rs R :=
  s1_of (ps_asg pe_S pg_S hs hw h1) fun T σ H hR S => then1 h hR S fun T1 rs1 r v H1 l R1 p q => (q.go T1 σ H1 v R1 (S.le l) p).mono fun _ _ q => q.le l
/-- a, b = x, y -/
theorem s_par (i j : Nat) {x y : Str} {px py pt : Pos} {kt k2 pt2} (h : AW X sl [a, b] rs fun as rs' => ∃ r1 r2, as = [r1, r2] ∧ R.nx ((sl.set i (some r1)).set j (some r2)) rs') (hN : X.N.Nodup) (hw : swappedStores [.Tuple [.Name x px, .Name y py] kt pt] (.Tuple [a, b] k2 pt2) X.env = pure (some [x, y]) := by rfl) (hi : X.N[i]? = some x := by rfl) (hj : X.N[j]? = some y := by rfl) (hij : i ≠ j := by decide)
    (hx : X.env.scope.names.lookup x = some .local := by rfl) (hy : X.env.scope.names.lookup y = some .local := by rfl) (hc : X.calm = true := by rfl)
    (hs : swapsWithSole [.Tuple [.Name x px, .Name y py] kt pt] (.Tuple [a, b] k2 pt2) pos.line X.env = pure false := by rfl) : S1 X sl (.Assign [.Tuple [.Name x px, .Name y py] kt pt] (.Tuple [a, b] k2 pt2) pos) rs R :=
  s1_of (ps_par hc hN hi hj hij hx hy pa_S hw hs) fun T σ H hR S => thenA h hR S fun T1 rs1 as vs H1 l R1 p ⟨r1, r2, e, q⟩ => by
    subst e
    obtain ⟨v, w, e, p1, p2⟩ := rp2 p
    exact ⟨v, w, e, T1, _, rs1, l, R1, ((S.le l).set i p1).set j p2, q⟩

/-! ## what is walked -/
structure ItD (K : PySem.W.Frag) (T1 : Tw) (J : It) (ds : List Da) : Prop where
  stop : ∀ T' rs' H', T1.le T' → RepH K T' rs' H' → J.stop ds.length H'
  go : ∀ i T' rs' H', i < ds.length → T1.le T' → RepH K T' rs' H' → J.go i H'
  yld : ∀ i d T' rs' H' x H'', ds[i]? = some d → T1.le T' → RepH K T' rs' H' → J.yld i H' x H'' → ∃ T'', T'.le T'' ∧ RepH K T'' rs' H'' ∧ Rp K T''.H0 x d
abbrev IQ := List Da → List Res → Prop
def tiS (X : Cx) (tg iter : Expr) : TI := fun σ H R => ∀ (pins : List (Addr × Obj)) (s : Shared), Inv X pins σ H s → wpAny (model X.prog X.w) X.A (eval iter X.env) (fun v s1 => wpAny (model X.prog X.w) X.A (pyIter v) (PIE X pins σ tg R) X.xe s1) X.xe s
theorem pi_S {tg iter : Expr} : PI X tg iter (tiS X tg iter) := ⟨fun pins s _ _ _ I h => h pins s I⟩
theorem tiS.mono {tg iter : Expr} {σ : L2.St} {H : Hp} {P Q : It → Hp → Prop} (h : tiS X tg iter σ H P) (k : ∀ J H', P J H' → Q J H') : tiS X tg iter σ H Q := fun pins s I => thn (h pins s I) fun _ _ h1 => thn h1 fun _ _ ⟨it, fp, tn, J, H', a, b, c, d, e, f⟩ => ⟨it, fp, tn, J, H', a, b, c, d, e, k _ _ f⟩
structure IW (X : Cx) (sl : Sl) (tg iter : Expr) (rs : List Res) (Q : IQ) : Prop where
  go : ∀ T σ H, RepH X.K T rs H → SlOk X.K T sl σ → tiS X tg iter σ H fun J H1 => ∃ T1 rs1 ds, T.le T1 ∧ RepH X.K T1 rs1 H1 ∧ ItD X.K T1 J ds ∧ Q ds rs1
theorem iw_of {tg iter : Expr} {wi : TI} {Q : IQ} (h : PI X tg iter wi) (hw : ∀ T σ H, RepH X.K T rs H → SlOk X.K T sl σ → wi σ H fun J H1 => ∃ T1 rs1 ds, T.le T1 ∧ RepH X.K T1 rs1 H1 ∧ ItD X.K T1 J ds ∧ Q ds rs1) : IW X sl tg iter rs Q :=
  ⟨fun T σ H a b pins s I => h.run pins s σ H _ I (hw T σ H a b)⟩
theorem iw_list {tg : Expr} {Q : IQ} (h : EW X sl e rs fun r rs1 => ∃ ds, r = .sh (.lst ds) ∧ Q ds rs1) : IW X sl tg e rs Q :=
  iw_of (pi_list pe_S) fun T σ H hR S => then1 h hR S fun T1 rs1 r v H1 l R1 p ⟨ds, e, q⟩ => by
    subst e
    cases p with
    | lst hs0 rp =>
      rename_i a vs
      have hs : SqL X.K T1.H0 a vs := SqL.of hs0
      refine ⟨a, rfl, ⟨vs, R1.h0.sqL hs⟩, T1, rs1, ds, l, R1, ⟨fun T' rs' H' l' R' => ⟨vs, R'.h0.sqL (l'.h0.sqL hs), by rw [rp.len]; exact Nat.le_refl _⟩, fun i T' rs' H' hi l' R' => ?_, fun i d T' rs' H' x H'' hd l' R' y => ?_⟩, q⟩
      · obtain ⟨v, h1, _⟩ := rp.get (List.getElem?_eq_getElem hi)
        exact ⟨vs, v, R'.h0.sqL (l'.h0.sqL hs), h1⟩
      · obtain ⟨e2, y⟩ := y
        subst e2
        obtain ⟨v, h1, h2⟩ := rp.get hd
        have e3 := y vs (R'.h0.sqL (l'.h0.sqL hs))
        rw [h1] at e3; cases e3
        exact ⟨T', .refl _, R', Rp.mono l'.h0 h2⟩
theorem iw_listK {tg : Expr} {Q : IQ} (h : EW X sl e rs fun r rs1 => ∃ ds, r = .sh (.lstK ds) ∧ Q ds rs1) : IW X sl tg e rs Q :=
  iw_of (pi_list pe_S) fun T σ H hR S => then1 h hR S fun T1 rs1 r v H1 l R1 p ⟨ds, e, q⟩ => by
    subst e
    cases p with
    | lstK hs rp =>
      rename_i a vs
      refine ⟨a, rfl, ⟨vs, R1.h0.sqL hs⟩, T1, rs1, ds, l, R1, ⟨fun T' rs' H' l' R' => ⟨vs, R'.h0.sqL (l'.h0.sqL hs), by rw [rp.len]; exact Nat.le_refl _⟩, fun i T' rs' H' hi l' R' => ?_, fun i d T' rs' H' x H'' hd l' R' y => ?_⟩, q⟩
      · obtain ⟨v, h1, _⟩ := rp.get (List.getElem?_eq_getElem hi)
        exact ⟨vs, v, R'.h0.sqL (l'.h0.sqL hs), h1⟩
      · obtain ⟨e2, y⟩ := y
        subst e2
        obtain ⟨v, h1, h2⟩ := rp.get hd
        have e3 := y vs (R'.h0.sqL (l'.h0.sqL hs))
        rw [h1] at e3; cases e3
        exact ⟨T', .refl _, R', Rp.mono l'.h0 h2⟩
theorem iw_tup {tg : Expr} {Q : IQ} (h : EW X sl e rs fun r rs1 => ∃ ds, r = .sh (.tup ds) ∧ Q ds rs1) : IW X sl tg e rs Q :=
  iw_of (pi_tup pe_S) fun T σ H hR S => then1 h hR S fun T1 rs1 r v H1 l R1 p ⟨ds, e, q⟩ => by
    subst e
    cases p with
    | tup hs0 rp =>
      rename_i a vs
      have hs : SqT X.K T1.H0 a vs := SqT.of hs0
      refine ⟨a, rfl, ⟨vs, R1.h0.sqT hs⟩, T1, rs1, ds, l, R1, ⟨fun T' rs' H' l' R' => ⟨vs, R'.h0.sqT (l'.h0.sqT hs), by rw [rp.len]; exact Nat.le_refl _⟩, fun i T' rs' H' hi l' R' => ?_, fun i d T' rs' H' x H'' hd l' R' y => ?_⟩, q⟩
      · obtain ⟨v, h1, _⟩ := rp.get (List.getElem?_eq_getElem hi)
        exact ⟨vs, v, R'.h0.sqT (l'.h0.sqT hs), h1⟩
      · obtain ⟨e2, y⟩ := y
        subst e2
        obtain ⟨v, h1, h2⟩ := rp.get hd
        have e3 := y vs (R'.h0.sqT (l'.h0.sqT hs))
        rw [h1] at e3; cases e3
        exact ⟨T', .refl _, R', Rp.mono l'.h0 h2⟩
def rangeD (lo : Int) (n : Nat) : List Da := (List.range n).map fun (k : Nat) => .int (lo + (k : Int))
theorem rangeD_len {lo : Int} {n : Nat} : (rangeD lo n).length = n := by unfold rangeD; simp
theorem rangeD_get {lo : Int} {n k : Nat} {d : Da} (h : (rangeD lo n)[k]? = some d) : k < n ∧ d = .int (lo + k) := by
  unfold rangeD at h
  rw [List.getElem?_map] at h
  cases e : (List.range n)[k]? with
  | none => rw [e] at h; cases h
  | some j =>
    rw [e] at h
    have hk := (List.getElem?_eq_some_iff.mp e).1
    rw [List.length_range] at hk
    rw [List.getElem?_range hk] at e
    cases e
    exact ⟨hk, (Option.some.inj h).symm⟩
theorem itd_range {K : PySem.W.Frag} {T1 : Tw} {lo : Int} {n : Nat} : ItD K T1 (Itr lo n) (rangeD lo n) :=
  ⟨fun _ _ _ _ _ => by show n ≤ _; rw [rangeD_len]; exact Nat.le_refl _, fun i _ _ _ hi _ _ => by rw [rangeD_len] at hi; exact hi, fun i d T' rs' H' x H'' hd _ R' y => by
    obtain ⟨e1, e2⟩ := y
    obtain ⟨h1, h2⟩ := rangeD_get hd
    subst e1 e2 h2
    exact ⟨T', .refl _, R', .int _⟩⟩
theorem iw_range1 {tg : Expr} {p : Pos} {Q : IQ} (hm : X.mg "range" = none) (h : AW X sl [a] rs fun as rs1 => ∃ n : Int, as = [.sh (.int n)] ∧ -(2 ^ 62) ≤ n ∧ n < 2 ^ 62 ∧ Q (rangeD 0 n.toNat) rs1) (hg : Gl X "range" := by rfl) (hs : starEach [a] X.env = [(false, eval a X.env)] := by rfl) : IW X sl tg (.Call (.Name "range" p) [a] [] pos) rs Q :=
  iw_of (pi_range1 hg hm pa_S hs) fun T σ H hR S => thenA h hR S fun T1 rs1 as vs H1 l R1 p ⟨n, e, h1, h2, q⟩ => by
    subst e
    obtain ⟨v, e, p⟩ := rp1 p
    exact ⟨n, by rw [e, intOf p], h1, h2, T1, rs1, _, l, R1, itd_range, q⟩
theorem iw_range2 {tg : Expr} {p : Pos} {Q : IQ} (hm : X.mg "range" = none) (h : AW X sl [a, b] rs fun as rs1 => ∃ m n : Int, as = [.sh (.int m), .sh (.int n)] ∧ (-(2 ^ 62) ≤ m ∧ m < 2 ^ 62 ∧ -(2 ^ 62) ≤ n ∧ n < 2 ^ 62) ∧ Q (rangeD m (n - m).toNat) rs1) (hg : Gl X "range" := by rfl) (hs : starEach [a, b] X.env = [(false, eval a X.env), (false, eval b X.env)] := by rfl) (hs2 : starEach [b] X.env = [(false, eval b X.env)] := by rfl) : IW X sl tg (.Call (.Name "range" p) [a, b] [] pos) rs Q :=
  iw_of (pi_range2 hg hm pa_S hs hs2) fun T σ H hR S => thenA h hR S fun T1 rs1 as vs H1 l R1 p ⟨m, n, e, h1, q⟩ => by
    subst e
    obtain ⟨v, w, e, p, p'⟩ := rp2 p
    exact ⟨m, n, by rw [e, intOf p, intOf p'], h1, T1, rs1, _, l, R1, itd_range, q⟩
def signsD (x : Str) : List Da := x.cps.toList.map fun c => .str ⟨#[c]⟩
theorem iw_str {tg : Expr} {Q : IQ} (h : EW X sl e rs fun r rs1 => ∃ x, r = .sh (.str x) ∧ Q (signsD x) rs1) : IW X sl tg e rs Q :=
  iw_of (pi_str pe_S) fun T σ H hR S => then1 h hR S fun T1 rs1 r v H1 l R1 p ⟨x, e, q⟩ => by
    subst e
    have hl : (signsD x).length = x.cps.size := by unfold signsD; rw [List.length_map, Array.length_toList]
    refine ⟨x, strOf p, T1, rs1, _, l, R1, ⟨fun _ _ _ _ _ => by show x.cps.size ≤ _; rw [hl]; exact Nat.le_refl _, fun i _ _ _ hi _ _ => by rw [hl] at hi; exact hi, fun i d T' rs' H' y H'' hd _ R' yy => ?_⟩, q⟩
    obtain ⟨e1, c, e2, e3⟩ := yy
    unfold signsD at hd
    rw [List.getElem?_map, Array.getElem?_toList, e2] at hd
    cases hd
    subst e1 e3
    exact ⟨T', .refl _, R', .str _⟩
/-- for tg in iter: body -/
theorem s_for {tg iter : Expr} {body : List Stmt} (Pv : Nat → SQ) (hi : IW X sl tg iter rs fun ds rs1 => Pv 0 sl rs1 ∧ (∀ k d sl' rs', ds[k]? = some d → Pv k sl' rs' → GW X tg (.sh d) sl' rs' fun sl2 rs2 => SW X sl2 body rs2 { R with nx := Pv (k + 1), ct := Pv (k + 1), bk := R.nx }) ∧ ∀ sl' rs', Pv ds.length sl' rs' → R.nx sl' rs')
    (hp : PassesOwn (model X.prog X.w) X.A X.env X.xe := by exact PassesOwn.never) (hc : X.calm = true := by rfl) (hs : ∀ x, foldedSetIterable iter X.env x = pure x := by intro _; rfl) : S1 X sl (.For tg iter body [] pos) rs R := by
  refine s1_of (ps_for hp hc pi_S pg_S pss_S hs) fun T σ H hR S => (hi.go T σ H hR S).mono ?_
  rintro J H1 ⟨T1, rs1, ds, l, R1, it, p0, ps, pe⟩
  refine ⟨fun i m σ H => m = ds.length - i ∧ i ≤ ds.length ∧ SPost X.K T1 (Pv i) σ H, ⟨ds.length, by simp, Nat.zero_le _, T1, sl, rs1, .refl _, R1, S.le l, p0⟩, ?_⟩
  rintro i m σ H ⟨rfl, hi, T', sl', rs', l', R', S', p⟩
  by_cases hlt : i < ds.length
  · refine .inr ⟨it.go i T' rs' H hlt l' R', SPost X.K T1 (Pv (i + 1)), fun σ' H' p' => ⟨ds.length - (i + 1), by omega, rfl, hlt, p'⟩, fun x H' y => ?_⟩
    obtain ⟨T2, l2, R2, rp⟩ := it.yld i _ T' rs' H x H' (List.getElem?_eq_getElem hlt) l' R' y
    have hb := ps i _ sl' rs' (List.getElem?_eq_getElem hlt) p
    refine (hb.go T2 σ H' x R2 (S'.le l2) rp).mono fun σ3 H3 ⟨T3, sl3, rs3, l3, R3, S3, q⟩ => (q T3 σ3 H3 R3 S3).mono
      ⟨fun _ _ q => q.le ((l'.trans l2).trans l3), fun _ _ q => q.le (((l.trans l').trans l2).trans l3), fun _ _ q => q.le (((l.trans l').trans l2).trans l3), fun _ _ q => q.le ((l'.trans l2).trans l3)⟩
  · have e : i = ds.length := by omega
    subst e
    exact .inl ⟨it.stop T' rs' H l' R', T', sl', rs', l.trans l', R', S', pe sl' rs' p⟩
/-- while, by a word that falls -/
theorem s_while {body : List Stmt} (W : Nat → SQ) (m0 : Nat) (h0 : W m0 sl rs) (hs : ∀ m sl' rs', W m sl' rs' → TW X sl' c rs' fun b rs1 => (b = true → SW X sl' body rs1 { R with nx := fun sl2 rs2 => ∃ m', m' < m ∧ W m' sl2 rs2, ct := fun sl2 rs2 => ∃ m', m' < m ∧ W m' sl2 rs2, bk := R.nx }) ∧ (b = false → R.nx sl' rs1))
    (hp : PassesOwn (model X.prog X.w) X.A X.env X.xe := by exact PassesOwn.never) : S1 X sl (.While c body [] pos) rs R := by
  refine s1_of (ps_while hp pt_S pss_S) fun T σ H hR S => ⟨fun m σ H => SPost X.K T (W m) σ H, ⟨m0, T, sl, rs, .refl _, hR, S, h0⟩, ?_⟩
  rintro m σ H ⟨T', sl', rs', l', R', S', w⟩
  refine thenT (hs m sl' rs' w) R' S' fun T1 rs1 b H1 l1 R1 ⟨q1, q2⟩ => ?_
  cases b with
  | true =>
    refine iteT ⟨fun σ H => ∃ m', m' < m ∧ SPost X.K T (W m') σ H, fun _ _ q => q, (q1 rfl T1 σ H1 R1 (S'.le l1)).mono ⟨fun _ _ q => ?_, fun _ _ q => q.le (l'.trans l1), fun _ _ q => q.le (l'.trans l1), fun _ _ q => ?_⟩⟩
    · obtain ⟨T2, sl2, rs2, l2, R2, S2, m', hm, q⟩ := q
      exact ⟨m', hm, T2, sl2, rs2, (l'.trans l1).trans l2, R2, S2, q⟩
    · obtain ⟨T2, sl2, rs2, l2, R2, S2, m', hm, q⟩ := q
      exact ⟨m', hm, T2, sl2, rs2, (l'.trans l1).trans l2, R2, S2, q⟩
  | false => exact iteF ⟨T1, sl', rs1, l'.trans l1, R1, S'.le l1, q2 rfl⟩
end
end DL

set_option Elab.async false
set_option linter.all false
set_option maxRecDepth 100000
set_option maxHeartbeats 4000000
namespace DL
open PySem PySem.Spec L2
open PyProof.Rows (envOfC assignInOrder_cons)

/-! ## comprehensions -/
def wipeS (sl : Sl) : List Nat → Sl
  | [] => sl
  | v :: vs => (wipeS sl vs).set v none
theorem wipe_at {σ : L2.St} {i : Nat} : ∀ {vs : List Nat}, (wipe σ vs)[i]? = if i ∈ vs ∧ i < σ.length then some none else σ[i]?
  | [] => by simp [wipe]
  | v :: vs => by
    unfold wipe
    by_cases h : v = i
    · subst h
      by_cases hl : v < σ.length
      · rw [List.getElem?_set_self (by rw [wipe_length]; exact hl), if_pos ⟨List.mem_cons_self, hl⟩]
      · rw [List.getElem?_eq_none (by rw [List.length_set, wipe_length]; omega), if_neg (fun z => hl z.2), List.getElem?_eq_none (by omega)]
    · rw [List.getElem?_set_ne h, wipe_at (vs := vs)]
      have : (i ∈ v :: vs ∧ i < σ.length) = (i ∈ vs ∧ i < σ.length) := by
        simp only [List.mem_cons, eq_iff_iff]
        exact ⟨fun ⟨a, b⟩ => ⟨a.resolve_left fun z => h z.symm, b⟩, fun ⟨a, b⟩ => ⟨.inr a, b⟩⟩
      simp only [this]
theorem wipe_same {σ σ' : L2.St} {vs : List Nat} (hl : σ'.length = σ.length) (h : ∀ i, i ∉ vs → σ'[i]? = σ[i]?) : wipe σ' vs = wipe σ vs := by
  apply List.ext_getElem?
  intro i
  rw [wipe_at, wipe_at, hl]
  by_cases hi : i ∈ vs
  · by_cases h2 : i < σ.length
    · rw [if_pos ⟨hi, h2⟩, if_pos ⟨hi, h2⟩]
    · rw [if_neg (fun z => h2 z.2), if_neg (fun z => h2 z.2), List.getElem?_eq_none (by omega), List.getElem?_eq_none (by omega)]
  · rw [if_neg (fun z => hi z.1), if_neg (fun z => hi z.1), h i hi]
theorem wipe_out' {σ : L2.St} {i : Nat} {vs : List Nat} (hi : i ∉ vs) : (wipe σ vs)[i]? = σ[i]? := by rw [wipe_at, if_neg (fun z => hi z.1)]
theorem SlOk.forget {K : PySem.W.Frag} {T : Tw} {sl : Sl} {σ : L2.St} (h : SlOk K T sl σ) (i : Nat) : SlOk K T (sl.set i none) (σ.set i none) := by
  refine ⟨by rw [List.length_set, List.length_set]; exact h.len, fun j r' e => ?_⟩
  by_cases hj : i = j
  · subst hj
    by_cases hl : i < sl.length
    · rw [List.getElem?_set_self hl] at e; cases e
    · rw [List.getElem?_eq_none (by rw [List.length_set]; omega)] at e; cases e
  · rw [List.getElem?_set_ne hj] at e
    rw [List.getElem?_set_ne hj]
    exact h.get j r' e
theorem SlOk.wipe {K : PySem.W.Frag} {T : Tw} {sl : Sl} {σ : L2.St} (h : SlOk K T sl σ) : ∀ vs : List Nat, SlOk K T (wipeS sl vs) (L2.wipe σ vs)
  | [] => h
  | v :: vs => (SlOk.wipe h vs).forget v
section
variable {X : Cx} {sl : Sl} {rs : List Res} {Q : EQ} {e elt iter tg c : Expr} {es ifs : List Expr} {pos : Pos} {scope : Scope} {own : List (Str × Nat)}
/-- the target of a comprehension: a name, or a tuple of names -/
inductive LcT (X : Cx) : Expr → (Da → Option (List (Nat × Da))) → Prop
  | name (i : Nat) {x : Str} {p : Pos} (hN : X.N.Nodup) (hi : X.N[i]? = some x) (hx : Loc X.env.scope x) (hf : X.fn x = true ∨ X.env.scope.names.lookup x = some .local) : LcT X (.Name x p) (fun d => some [(i, d)])
def setAll (sl : Sl) : List (Nat × Da) → Sl
  | [] => sl
  | (i, d) :: r => setAll (sl.set i (some (.sh d))) r
def setAllV (σ : L2.St) : List (Nat × V) → L2.St
  | [] => σ
  | (i, d) :: r => setAllV (σ.set i (some d)) r
theorem setAll_ok {K : PySem.W.Frag} {T : Tw} : ∀ {ids : List (Nat × Da)} {ivs : List (Nat × V)} {sl : Sl} {σ : L2.St}, Paired (fun (a : Nat × Da) (b : Nat × V) => a.1 = b.1 ∧ Rp K T.H0 b.2 a.2) ids ivs → SlOk K T sl σ → SlOk K T (setAll sl ids) (setAllV σ ivs)
  | _, _, _, _, .nil, S => S
  | (i, d) :: _, (j, v) :: _, _, _, .cons ⟨e, r⟩ t, S => by
    have e : i = j := e
    subst e
    unfold setAll setAllV
    exact setAll_ok t (S.set i (r := .sh d) r)
theorem setAllV_len : ∀ {ivs : List (Nat × V)} {σ : L2.St}, (setAllV σ ivs).length = σ.length
  | [], _ => rfl
  | (i, v) :: r, σ => by unfold setAllV; rw [setAllV_len, List.length_set]
theorem setAllV_out : ∀ {ivs : List (Nat × V)} {σ : L2.St} {i : Nat}, i ∉ ivs.map (·.1) → (setAllV σ ivs)[i]? = σ[i]?
  | [], _, _, _ => rfl
  | (j, v) :: r, σ, i, h => by
    unfold setAllV
    rw [setAllV_out (fun z => h (List.mem_cons_of_mem _ z)), List.getElem?_set_ne (fun z => h (by rw [← z]; exact List.mem_cons_self))]
/-- the places of a tuple's names -/
structure LcNames (X : Cx) (tgs : List Expr) (is : List Nat) : Prop where
  run : ∀ (pins : List (Addr × Obj)) (s : Shared) (σ : L2.St) (H : Hp) (vs : List V) (us : List Value) (Q : L2.St → Hp → Prop), Inv X pins σ H s → Vals vs us → vs.length = is.length → Q (setAllV σ (is.zip vs)) H →
    wpAny (model X.prog X.w) X.A (assignInOrder ((assignEach tgs X.env).map (·.2)) us) (fun _ s' => ∃ σ' H', Inv X pins σ' H' s' ∧ Q σ' H') X.xe s
theorem lcn_nil : LcNames X [] [] := ⟨fun pins s σ H vs us Q I r hl q => by
  have e : vs = [] := List.length_eq_zero_iff.mp hl
  subst e
  cases r
  exact pgs_nil.run pins s σ H [] [] Q I .nil ⟨rfl, q⟩⟩
theorem lcn_cons (i : Nat) {x : Str} {p : Pos} {tgs : List Expr} {is : List Nat} (h : LcNames X tgs is) (hN : X.N.Nodup) (hi : X.N[i]? = some x := by rfl) (hx : Loc X.env.scope x := by first | exact Or.inl rfl | exact Or.inr rfl) (hf : X.fn x = true ∨ X.env.scope.names.lookup x = some .local := by first | exact .inl rfl | exact .inr rfl)
    (hs : (assignEach (.Name x p :: tgs) X.env).map (·.2) = assign (.Name x p) X.env :: (assignEach tgs X.env).map (·.2) := by rfl) : LcNames X (.Name x p :: tgs) (i :: is) := ⟨fun pins s σ H vs us Q I r hl q => by
  cases r with
  | nil => cases hl
  | cons r1 r2 =>
    rename_i v u vs us
    rw [hs]
    refine assignInOrder_cons (thn ((pg_name hN hi hx hf).run pins s σ H v u (fun σ' H' => σ' = σ.set i (some v) ∧ H' = H) I r1 ⟨rfl, rfl⟩) fun _ s1 ⟨σ1, H1, I1, e1, e2⟩ => ?_)
    subst e1 e2
    exact h.run pins s1 _ H1 vs us Q I1 r2 (by simpa using hl) q⟩
/-- a comprehension's target: where it stores what of an item -/
structure LcG (X : Cx) (tg : Expr) (is : List Nat) (f : Da → Option (List Da)) : Prop where
  run : ∀ (T : Tw) (rs : List Res) (σ : L2.St) (H : Hp) (v : V) (d : Da) (ds : List Da) (Q : L2.St → Hp → Prop), RepH X.K T rs H → Rp X.K T.H0 v d → f d = some ds → (∀ vs, Rps X.K T.H0 vs ds → vs.length = is.length → Q (setAllV σ (is.zip vs)) H) → tgS X tg v σ H Q
theorem lcg_name (i : Nat) {x : Str} {p : Pos} (hN : X.N.Nodup) (hi : X.N[i]? = some x := by rfl) (hx : Loc X.env.scope x := by first | exact Or.inl rfl | exact Or.inr rfl) (hf : X.fn x = true ∨ X.env.scope.names.lookup x = some .local := by first | exact .inl rfl | exact .inr rfl) : LcG X (.Name x p) [i] (fun d => some [d]) :=
  ⟨fun T rs σ H v d ds Q R p e q pins s u I ru => by
    cases e
    exact (pg_name hN hi hx hf).run pins s σ H v u _ I ru (q [v] (.one p) rfl)⟩
def tupD (n : Nat) : Da → Option (List Da)
  | .tup ds => if ds.length = n then some ds else none
  | _ => none
theorem lcg_tup {tgs : List Expr} {k : Nat} {is : List Nat} (h : LcNames X tgs is) (hl : is.length = tgs.length := by rfl) (hc : X.calm = true := by rfl) (hn : (assignEach tgs X.env).length = tgs.length := by rfl)
    (hst : (assignEach tgs X.env).findIdx? (·.1) = none := by rfl) : LcG X (.Tuple tgs k pos) is (tupD is.length) :=
  ⟨fun T rs σ H v d ds Q R p e q pins s u I ru => by
    cases p with
    | tup hs rp =>
      rename_i a vs ds'
      have e : (if ds'.length = is.length then some ds' else none) = some ds := e
      split at e
      · rename_i hl2
        cases e
        have hvl : vs.length = is.length := rp.len.trans hl2
        refine (pg_tup hc (t := fun vs σ H Q => vs.length = is.length ∧ Q (setAllV σ (is.zip vs)) H) ⟨fun pins s σ H vs us Q I r h2 => h.run pins s σ H vs us Q I r h2.1 h2.2⟩ hn hst).run pins s σ H _ u _ I ru ⟨a, vs, rfl, SqT.of (R.h0 _ _ hs), by rw [hvl, hl], hvl, q vs rp hvl⟩
      · cases e
    | _ => cases e⟩
theorem paired_zip {K : PySem.W.Frag} {H : Hp} : ∀ {is : List Nat} {vs : List V} {ds : List Da}, Rps K H vs ds → vs.length = is.length → Paired (fun (a : Nat × Da) (b : Nat × V) => a.1 = b.1 ∧ Rp K H b.2 a.2) (is.zip ds) (is.zip vs)
  | [], _, _, _, _ => by simp only [List.zip_nil_left]; exact .nil
  | _ :: _, _, _, .nil, h => by simp at h
  | i :: is, _, _, .cons a t, h => by
    simp only [List.zip_cons_cons]
    exact .cons ⟨rfl, a⟩ (paired_zip t (by simpa using h))
def ptsS (X : Cx) (ifs : List Expr) : TT := fun σ H Q => ∀ (pins : List (Addr × Obj)) (s : Shared), Inv X pins σ H s → wpAny (model X.prog X.w) X.A (forIn ifs true fun c r => if r = true then do let ok ← isTrue c X.env (eval c X.env); pure (ForInStep.yield ok) else pure (ForInStep.yield r)) (TP X pins σ Q) X.xe s
theorem pts_S {ifs : List Expr} : PTs X ifs (ptsS X ifs) := ⟨fun pins s _ _ _ I h => h pins s I⟩
theorem ptsS.mono {ifs : List Expr} {σ : L2.St} {H : Hp} {P Q : Bool → Hp → Prop} (h : ptsS X ifs σ H P) (k : ∀ v H', P v H' → Q v H') : ptsS X ifs σ H Q := fun pins s I => thn (h pins s I) fun b _ ⟨H', a, c⟩ => ⟨H', a, k b H' c⟩
structure PWs (X : Cx) (sl : Sl) (ifs : List Expr) (rs : List Res) (Q : TQ) : Prop where
  go : ∀ T σ H, RepH X.K T rs H → SlOk X.K T sl σ → ptsS X ifs σ H (TPost X.K T Q)
theorem pws_nil {Q : TQ} (q : Q true rs) : PWs X sl [] rs Q := ⟨fun T σ H a b pins s I => pts_nil.run pins s σ H _ I ⟨T, rs, .refl T, a, q⟩⟩
theorem pws_one {Q : TQ} (h : TW X sl c rs Q) : PWs X sl [c] rs Q := ⟨fun T σ H a b pins s I => (pts_one pt_S).run pins s σ H _ I (h T σ H a b)⟩
abbrev Blk (X : Cx) (scope : Scope) (P : Cx → Prop) : Prop := ∀ (s : Shared) (H : Hp) (C : Addr) (cl : List (Str × Addr)) (fp : List Addr), P (X.blk s H scope (compEnvC scope cl C X.env) fp)
/-- [elt for tg in iter if ..]: Pv k tells the things behind k items, the new list last among them -/
def LcI (X : Cx) (sl : Sl) (tg iter : Expr) (ifs : List Expr) (elt : Expr) (scope : Scope) (is : List Nat) (f : Da → Option (List Da)) (own : List (Str × Nat)) (Pv : Nat → List Res → Prop) (rs : List Res) (Q : EQ) : Prop :=
  IW X sl tg iter rs fun ds rs1 => Pv 0 (rs1 ++ [.lst []]) ∧
      (∀ k d rs', ds[k]? = some d → Pv k rs' → ∃ ids, f d = some ids ∧ Blk X scope fun Y => PWs Y (setAll (wipeS sl (own.map (·.2))) (is.zip ids)) ifs rs' fun b rs2 => (b = false → Pv (k + 1) rs2) ∧
        (b = true → Blk X scope fun Y => EW Y (setAll (wipeS sl (own.map (·.2))) (is.zip ids)) elt rs2 fun r rs3 => ∃ d acc, r = .sh d ∧ rs3[rs1.length]? = some (.lst acc) ∧ acc.length < 100000 ∧ Pv (k + 1) (rs3.set rs1.length (.lst (acc ++ [d]))))) ∧
      ∀ rs', Pv ds.length rs' → Q (.rf rs1.length) rs'
def gB (X : Cx) (scope : Scope) (tg : Expr) : TG := fun v σ H Q => ∀ (s : Shared) (H0 : Hp) (C : Addr) (cl : List (Str × Addr)) (fp : List Addr), tgS (X.blk s H0 scope (compEnvC scope cl C X.env) fp) tg v σ H Q
def tB2 (X : Cx) (scope : Scope) (ifs : List Expr) : TT := fun σ H Q => ∀ (s : Shared) (H0 : Hp) (C : Addr) (cl : List (Str × Addr)) (fp : List Addr), ptsS (X.blk s H0 scope (compEnvC scope cl C X.env) fp) ifs σ H Q
def eB (X : Cx) (scope : Scope) (elt : Expr) : TE := fun σ H Q => ∀ (s : Shared) (H0 : Hp) (C : Addr) (cl : List (Str × Addr)) (fp : List Addr), teS (X.blk s H0 scope (compEnvC scope cl C X.env) fp) elt σ H Q
theorem lcD {is : List Nat} {f : Da → Option (List Da)} {Pv : Nat → List Res → Prop} {own : List (Str × Nat)} (hsub : ∀ i ∈ is, i ∈ own.map (·.2)) (hg : Blk X scope fun Y => LcG Y tg is f)
    (hi : LcI X sl tg iter ifs elt scope is f own Pv rs Q) {T : Tw} {σ : L2.St} {H : Hp} (hR : RepH X.K T rs H) (S : SlOk X.K T sl σ) {Qf : VK} (hq : ∀ T' rs' r v H', T.le T' → RepH X.K T' rs' H' → RpV X.K T' v r → Q r rs' → Qf v H') :
    tLc (tiS X tg iter) (gB X scope tg) (tB2 X scope ifs) (eB X scope elt) (own.map (·.2)) σ H Qf := by
  refine (IW.go hi T σ H hR S).mono ?_
  rintro J H1 ⟨T1, rs1, ds, l, R1, it, p0, ps, pend⟩ D hD
  have SW1 := (S.le l).wipe (own.map (·.2))
  refine ⟨fun i m H => m = ds.length - i ∧ i ≤ ds.length ∧ ∃ T' rs', (T1.more D).le T' ∧ RepH X.K T' rs' H ∧ Pv i rs', ⟨ds.length, by simp, Nat.zero_le _, _, _, .refl _, make_lst R1 hD .nil, p0⟩, ?_⟩
  rintro i m H2 ⟨rfl, hi, T', rs', l', R', p⟩
  have l1' : T1.le T' := (T1.le_more D).trans l'
  have adD : T'.ad rs1.length = D := by
    rw [l'.ad rs1.length (by rw [R1.n]; exact Nat.lt_succ_self _)]
    show (if rs1.length = T1.n then D else _) = D
    rw [if_pos R1.n]
  by_cases hlt : i < ds.length
  · refine .inr ⟨it.go i T' rs' H2 hlt l1' R', fun H' => ∃ T2 rs2, (T1.more D).le T2 ∧ RepH X.K T2 rs2 H' ∧ Pv (i + 1) rs2, fun H' ⟨T2, rs2, a, b, c⟩ => ⟨ds.length - (i + 1), by omega, rfl, hlt, T2, rs2, a, b, c⟩, fun x H' y => ?_⟩
    obtain ⟨T2, l2, R2, rp⟩ := it.yld i _ T' rs' H2 x H' (List.getElem?_eq_getElem hlt) l1' R' y
    obtain ⟨ids, hf, hb⟩ := ps i _ rs' (List.getElem?_eq_getElem hlt) p
    intro s0 H0 C0 cl0 fp0
    refine (hg s0 H0 C0 cl0 fp0).run T2 rs' _ H' x _ ids _ R2 rp hf fun vs rps hvl => ⟨?_, fun s1 H1 C1 cl1 fp1 => ?_⟩
    · have e0 : wipe (setAllV (wipe σ (own.map (·.2))) (is.zip vs)) (own.map (·.2)) = wipe σ (own.map (·.2)) := by
        refine wipe_same ?_ fun i hi => ?_
        · rw [setAllV_len, wipe_length]
        · rw [setAllV_out, wipe_out' hi]
          intro z
          refine hi (hsub i ?_)
          have : (is.zip vs).map (·.1) = is := by rw [List.map_fst_zip (by omega)]
          rw [this] at z; exact z
      exact e0
    · have S2 := setAll_ok (paired_zip rps hvl) ((SW1.le l1').le l2)
      refine ptsS.mono ((hb s1 H1 C1 cl1 fp1).go T2 _ H' R2 S2) fun b H3 ⟨T3, rs3, l3, R3, q1, q2⟩ => ?_
      cases b with
      | false => exact iteF ⟨T3, rs3, (l'.trans l2).trans l3, R3, q1 rfl⟩
      | true =>
        refine iteT fun s2 H2 C2 cl2 fp2 => teS.mono ((q2 rfl s2 H2 C2 cl2 fp2).go T3 _ H3 R3 (S2.le l3)) fun y H4 ⟨T4, rs4, r, l4, R4, p4, d, acc, e1, e2, e3, q⟩ => ?_
        subst e1
        obtain ⟨h1, ws, h2, h3⟩ := R4.rs _ _ e2
        have ad4 : T4.ad rs1.length = D := by
          rw [(l2.trans (l3.trans l4)).ad rs1.length (Nat.lt_of_lt_of_le (by rw [R1.n]; exact Nat.lt_succ_self _) l'.n)]; exact adD
        rw [ad4] at h1 h2
        have hk : rs1.length < rs4.length := (List.getElem?_eq_some_iff.mp e2).1
        refine ⟨ws, h2, by rw [h3.len]; exact Nat.lt_of_lt_of_le e3 (by decide), T4, _, ((l'.trans l2).trans l3).trans l4, R4.write h1 ?_ hk, q⟩
        refine ⟨by rw [ad4]; exact h1, ws ++ [y], by rw [ad4]; exact upd_same, h3.app (.one p4)⟩
  · have e : i = ds.length := by omega
    subst e
    exact .inl ⟨it.stop T' rs' H2 l1' R', hq T' rs' (.rf rs1.length) _ _ (l.trans l1') R' ⟨Nat.lt_of_lt_of_le (by rw [R1.n]; exact Nat.lt_succ_self _) l'.n, by rw [adD]⟩ (pend rs' p)⟩
theorem blk_of {Y : Cx} {N ps : List Str} {sc : Scope} (_S : FnScope N ps sc) (e1 : Y.N = N) (e2 : Y.env.scope = sc) (h : blkC N sc scope own = true) : BlkOk Y.N Y.env.scope scope own := by
  rw [e1, e2]; exact blkOk_by h
theorem ew_lc {is : List Nat} {f : Da → Option (List Da)} (Pv : Nat → List Res → Prop) (own : List (Str × Nat)) (hg : Blk X scope fun Y => LcG Y tg is f)
    (hi : LcI X sl tg iter ifs elt scope is f own Pv rs Q) (hN : X.N.Nodup) (ok : BlkOk X.N X.env.scope scope own := by exact (blk_of (by assumption) (by rfl) (by rfl) (by decide +kernel))) (hsub : ∀ i ∈ is, i ∈ own.map (·.2) := by decide) (hc : X.calm = true := by rfl) (hs : ∀ x, foldedSetIterable iter X.env x = pure x := by intro _; rfl) : EW X sl (.ListComp elt [⟨tg, iter, ifs, 0⟩] scope pos) rs Q :=
  ew_of (pe_lc (g := gB X scope tg) (tt := tB2 X scope ifs) (te := eB X scope elt) hc hN pi_S ok (fun s H C cl fp => ⟨fun pins s' σ H' v u Q I r h => h s H C cl fp pins s' u I r⟩) (fun s H C cl fp => ⟨fun pins s' σ H' Q I h => h s H C cl fp pins s' I⟩) (fun s H C cl fp => ⟨fun pins s' σ H' Q I h => h s H C cl fp pins s' I⟩) hs)
    fun T σ H hR S => lcD hsub hg hi hR S fun T' rs' r v H' l R' p q => ⟨T', rs', r, l, R', p, q⟩
/-- x = [..] -/
theorem s_setLc (i : Nat) {is : List Nat} {f : Da → Option (List Da)} (Pv : Nat → List Res → Prop) (own : List (Str × Nat)) {R : Out} {y : Str} {py spos : Pos} (hg : Blk X scope fun Y => LcG Y tg is f)
    (hi : LcI X sl tg iter ifs elt scope is f own Pv rs fun r rs' => R.nx (sl.set i (some r)) rs') (hN : X.N.Nodup) (hsw : swapsWith (.ListComp elt [⟨tg, iter, ifs, 0⟩] scope pos) (some (.Name y py)) spos.line X.env = pure true := by exact (sw_true rfl rfl rfl (by decide +kernel))) (hy : X.N[i]? = some y := by rfl) (hyl : X.env.scope.names.lookup y = some .local := by rfl) (ok : BlkOk X.N X.env.scope scope own := by exact (blk_of (by assumption) (by rfl) (by rfl) (by decide +kernel))) (hsub : ∀ i ∈ is, i ∈ own.map (·.2) := by decide) (hc : X.calm = true := by rfl) (hs : ∀ x, foldedSetIterable iter X.env x = pure x := by intro _; rfl) :
    S1 X sl (.Assign [.Name y py] (.ListComp elt [⟨tg, iter, ifs, 0⟩] scope pos) spos) rs R :=
  s1_of (ps_setLc (g := gB X scope tg) (tt := tB2 X scope ifs) (te := eB X scope elt) hc hN hy hyl hsw pi_S ok (fun s H C cl fp => ⟨fun pins s' σ H' v u Q I r h => h s H C cl fp pins s' u I r⟩) (fun s H C cl fp => ⟨fun pins s' σ H' Q I h => h s H C cl fp pins s' I⟩) (fun s H C cl fp => ⟨fun pins s' σ H' Q I h => h s H C cl fp pins s' I⟩) hs)
    fun T σ H hR S => lcD hsub hg hi hR S fun T' rs' r v H' l R' p q => ⟨T', _, rs', l, R', (S.le l).set i p, q⟩
end
theorem signsD_get {x : Str} {k : Nat} {d : Da} (h : (signsD x)[k]? = some d) : ∃ c, x.cps.toList[k]? = some c ∧ d = .str ⟨#[c]⟩ := by
  unfold signsD at h
  rw [List.getElem?_map] at h
  obtain ⟨c, h1, h2⟩ := Option.map_eq_some_iff.mp h
  exact ⟨c, h1, h2.symm⟩
theorem signsD_len {x : Str} : (signsD x).length = x.length := by
  unfold signsD; rw [List.length_map, Array.length_toList]; rfl
end DL

set_option Elab.async false
set_option linter.all false
set_option maxRecDepth 100000
set_option maxHeartbeats 4000000
namespace DL
open PySem PySem.Spec L2
open PyProof.Rows (envOfC)

/-! ## data compared -/
mutual
def toPy : Da → PyData
  | .non => .none | .bl b => .bool b | .int i => .int i | .str x => .str x
  | .tup ds => .tuple (toPys ds) | .lst ds => .list (toPys ds)
  | _ => .none
def toPys : List Da → List PyData
  | [] => [] | d :: ds => toPy d :: toPys ds
end
mutual
def okD : Nat → Da → Bool
  | _, .non => true | _, .bl _ => true | _, .int _ => true | _, .str x => PySem.PyData.strOk x
  | n + 1, .tup ds => okDs n ds | n + 1, .lst ds => okDs n ds
  | _, _ => false
def okDs : Nat → List Da → Bool
  | _, [] => true | n, d :: ds => okD n d && okDs n ds
end
mutual
theorem okD_lay : ∀ (n : Nat) (d : Da), okD n d = true → (toPy d).canLay0 = true ∧ (toPy d).depth ≤ n
  | _, .non, _ => by simp [toPy, PyData.canLay0, PyData.depth]
  | _, .bl _, _ => by simp [toPy, PyData.canLay0, PyData.depth]
  | _, .int _, _ => by simp [toPy, PyData.canLay0, PyData.depth]
  | n, .str x, h => by
    have h : PySem.PyData.strOk x = true := by cases n <;> simpa [okD] using h
    simp [toPy, PyData.canLay0, PyData.depth, h]
  | n + 1, .tup ds, h => by
    have ⟨a, b⟩ := okDs_lay n ds (by simpa [okD] using h)
    simp [toPy, PyData.canLay0, PyData.depth, a, b]
  | n + 1, .lst ds, h => by
    have ⟨a, b⟩ := okDs_lay n ds (by simpa [okD] using h)
    simp [toPy, PyData.canLay0, PyData.depth, a, b]
  | 0, .tup _, h => by simp [okD] at h
  | 0, .lst _, h => by simp [okD] at h
  | 0, .tupK _, h => by simp [okD] at h
  | _ + 1, .tupK _, h => by simp [okD] at h
  | 0, .lstK _, h => by simp [okD] at h
  | _ + 1, .lstK _, h => by simp [okD] at h
  | 0, .dT _, h => by simp [okD] at h
  | _ + 1, .dT _, h => by simp [okD] at h
  | 0, .ins _ _, h => by simp [okD] at h
  | _ + 1, .ins _ _, h => by simp [okD] at h
  | 0, .ty _, h => by simp [okD] at h
  | _ + 1, .ty _, h => by simp [okD] at h
  | 0, .adr _, h => by simp [okD] at h
  | _ + 1, .adr _, h => by simp [okD] at h
  | 0, .dL _, h => by simp [okD] at h
  | _ + 1, .dL _, h => by simp [okD] at h
  | 0, .exn _ _, h => by simp [okD] at h
  | _ + 1, .exn _ _, h => by simp [okD] at h
theorem okDs_lay : ∀ (n : Nat) (d : List Da), okDs n d = true → PyData.canLayAll0 (toPys d) = true ∧ PyData.depthAll (toPys d) ≤ n
  | _, [], _ => by simp [toPys, PyData.canLayAll0, PyData.depthAll]
  | n, d :: ds, h => by
    have h : okD n d = true ∧ okDs n ds = true := by simpa [okDs] using h
    have ⟨a, b⟩ := okD_lay n d h.1
    have ⟨a', b'⟩ := okDs_lay n ds h.2
    simp [toPys, PyData.canLayAll0, PyData.depthAll, a, a']
    omega
end
theorem okD_shaped {n : Nat} {d : Da} (h : okD n d = true) (hn : n ≤ 64) : SeqAt.shaped (toPy d) = true := by
  have ⟨a, b⟩ := okD_lay n d h
  unfold SeqAt.shaped
  rw [a, decide_eq_true (Nat.le_trans b hn)]; rfl
mutual
theorem dp_of {K : PySem.W.Frag} {H : Hp} : ∀ {n : Nat} {v : V} {d : Da}, Rp K H v d → okD n d = true → Dp K H v (toPy d)
  | _, _, _, .non, _ => by unfold toPy; exact .non
  | _, _, _, .bl _, _ => by unfold toPy; exact .bl _
  | _, _, _, .int _, _ => by unfold toPy; exact .int _
  | _, _, _, .str _, _ => by unfold toPy; exact .str _
  | n + 1, _, _, .tup a b, h => by unfold toPy; exact .tup (SqT.of a) (dps_of b (n := n) (by simpa [okD] using h))
  | n + 1, _, _, .lst a b, h => by unfold toPy; exact .lst (SqL.of a) (dps_of b (n := n) (by simpa [okD] using h))
  | 0, _, _, .tup a b, h => by simp [okD] at h
  | 0, _, _, .lst a b, h => by simp [okD] at h
  | 0, _, _, .tupK a b, h => by simp [okD] at h
  | _ + 1, _, _, .tupK a b, h => by simp [okD] at h
  | 0, _, _, .lstK a b, h => by simp [okD] at h
  | _ + 1, _, _, .lstK a b, h => by simp [okD] at h
  | 0, _, _, .dT a b, h => by simp [okD] at h
  | _ + 1, _, _, .dT a b, h => by simp [okD] at h
  | 0, _, _, .ins a b, h => by simp [okD] at h
  | _ + 1, _, _, .ins a b, h => by simp [okD] at h
  | 0, _, _, .ty a, h => by simp [okD] at h
  | _ + 1, _, _, .ty a, h => by simp [okD] at h
  | 0, _, _, .adr a, h => by simp [okD] at h
  | _ + 1, _, _, .adr a, h => by simp [okD] at h
  | 0, _, _, .dL _ _, h => by simp [okD] at h
  | _ + 1, _, _, .dL _ _, h => by simp [okD] at h
  | 0, _, _, .exn _ _ _, h => by simp [okD] at h
  | _ + 1, _, _, .exn _ _ _, h => by simp [okD] at h
theorem dps_of {K : PySem.W.Frag} {H : Hp} : ∀ {n : Nat} {v : List V} {d : List Da}, Rps K H v d → okDs n d = true → DpAll K H v (toPys d)
  | _, _, _, .nil, _ => by unfold toPys; exact .nil
  | n, _, _, .cons a b, h => by
    simp only [okDs, Bool.and_eq_true] at h
    unfold toPys; exact .cons (dp_of a h.1) (dps_of b h.2)
end
abbrev eqD (a b : Da) : Bool := PyData.eqv (toPy a) (toPy b)
theorem eqD_refl {n : Nat} {a : Da} (h : okD n a = true) : eqD a a = true := SeqAt.eqv_refl _ (okD_lay n a h).1
section
variable {X : Cx} {sl : Sl} {rs : List Res} {Q : EQ} {r1 r2 r0 : Rv} {k : Nat}
theorem bv_eqD {n m : Nat} {a b : Da} (hu : X.A.units + 64 < cLine) (w1 : Vw rs r1 a) (w2 : Vw rs r2 b) (h1 : okD n a = true) (h2 : okD m b = true) (q : Q (.sh (.bl (eqD a b))) rs) (hn : n ≤ 64 := by decide) (hm : m ≤ 64 := by decide) : BV X (compareOp .Eq) r1 r2 rs Q :=
  bv_of (op_eqD hu) fun T H v1 v2 R p1 p2 => ⟨_, _, dp_of (w1.rp R p1) h1, dp_of (w2.rp R p2) h2, okD_shaped h1 hn, okD_shaped h2 hm, epost R (r := .sh (.bl _)) (.bl _) q⟩
theorem bv_neD {n m : Nat} {a b : Da} (hu : X.A.units + 64 < cLine) (w1 : Vw rs r1 a) (w2 : Vw rs r2 b) (h1 : okD n a = true) (h2 : okD m b = true) (q : Q (.sh (.bl (!eqD a b))) rs) (hn : n ≤ 64 := by decide) (hm : m ≤ 64 := by decide) : BV X (compareOp .NotEq) r1 r2 rs Q :=
  bv_of (op_neD hu) fun T H v1 v2 R p1 p2 => ⟨_, _, dp_of (w1.rp R p1) h1, dp_of (w2.rp R p2) h2, okD_shaped h1 hn, okD_shaped h2 hm, epost R (r := .sh (.bl _)) (.bl _) q⟩
theorem eqD_nil {a : List Da} : eqD (.lst a) (.lst []) = a.isEmpty := by
  cases a <;> simp [eqD, toPy, toPys, PyData.eqv, PyData.eqvAll]
theorem okDs_all {n : Nat} : ∀ {ds : List Da}, (∀ d ∈ ds, okD n d = true) → okDs n ds = true
  | [], _ => by simp [okDs]
  | d :: ds, h => by rw [okDs, h d List.mem_cons_self, okDs_all fun x hx => h x (List.mem_cons_of_mem _ hx)]; rfl
theorem okD_ints {ns : List Int} : okD 1 (.lst (ns.map Da.int)) = true := by
  unfold okD
  exact okDs_all fun d hd => by
    obtain ⟨i, _, e⟩ := List.mem_map.mp hd
    subst e; rfl

/-! ## methods of lists and texts -/
def mtS (X : Cx) (id : String) : V → List V → Hp → VK → Prop := fun x xs H Q => ∀ (pins : List (Addr × Obj)) (s : Shared) (σ : L2.St) (v : Value) (us : List Value), Inv X pins σ H s → RelV x v → Vals xs us → wpAny (model X.prog X.w) X.A (call (.builtin id) (v :: us)) (EP X pins σ Q) X.xe s
theorem mt_S {id : String} : MtR X id (mtS X id) := fun pins s σ _ _ _ v us _ I r rv h => h pins s σ v us I r rv
structure MV (X : Cx) (id : String) (r0 : Rv) (as : List Rv) (rs : List Res) (Q : EQ) : Prop where
  go : ∀ T H v vs, RepH X.K T rs H → RpV X.K T v r0 → RpVs X.K T vs as → mtS X id v vs H (EPost X.K T Q)
theorem mv_of {id : String} {as : List Rv} {r : V → List V → Hp → VK → Prop} (h : MtR X id r) (hw : ∀ T H v vs, RepH X.K T rs H → RpV X.K T v r0 → RpVs X.K T vs as → r v vs H (EPost X.K T Q)) : MV X id r0 as rs Q :=
  ⟨fun T H v vs R a b pins s σ u us I rx ry => h pins s σ H v vs u us _ I rx ry (hw T H v vs R a b)⟩
/-- a list: ours, or one that stays -/
inductive IsL (rs : List Res) : Rv → Prop
  | vw {r : Rv} {ds : List Da} : Vw rs r (.lst ds) → IsL rs r
  | rf {k : Nat} {ds : List Rv} : rs[k]? = some (.lstR ds) → IsL rs (.rf k)
theorem IsL.ty {K : PySem.W.Frag} {T : Tw} {H : Hp} {v : V} (w : IsL rs r0) (R : RepH K T rs H) (h : RpV K T v r0) : tyV K "list" v H := by
  cases w with
  | vw w =>
    obtain ⟨a, vs, e, hs, _⟩ := w.lstv R h
    rw [e]; exact .inl ⟨rfl, _, hs⟩
  | rf e =>
    obtain ⟨_, e2⟩ := h
    obtain ⟨_, vs, q, _⟩ := R.rs _ _ e
    rw [e2]; exact .inl ⟨rfl, _, SqL.of q⟩
section
variable {o e : Expr} {es : List Expr} {name : Str} {id : String} {apos cpos pos : Pos}
theorem ew_mL (slot : Slot "list" name id) (hty : typeOf (.builtin id) = pure (.type "method_descriptor")) (h : EW X sl o rs fun r0 rs1 => IsL rs1 r0 ∧ AW X sl (e :: es) rs1 fun as rs2 => MV X id r0 as rs2 Q)
    (hbase : attributeBase o name X.env (eval o X.env) = eval o X.env := by rfl)
    (hfew : ((backTo cpos (starEach (e :: es) X.env)).all (fun x => !x.1) && (backToKw cpos (keywordEach [] X.env)).all (fun x => x.1.isSome)
      && decide ((e :: es).length + ([] : List Keyword).length + (if ([] : List Keyword).isEmpty then 0 else 1) < 30)) = true := by rfl)
    (hline : (apos.endLine == cpos.line) = true := by rfl) (hs : starEach (e :: es) X.env = (false, eval e X.env) :: starEach es X.env := by rfl) (hplain : (backTo cpos (starEach es X.env)).any (·.1) = false := by rfl) :
    EW X sl (.Call (.Attribute o name apos) (e :: es) [] cpos) rs Q :=
  ew_of (pe_bm PySem.F.plainAttrs_list slot hty mt_S pe_S pa_S hbase hfew hline hs hplain) fun T σ H R S => then1 h R S fun T1 rs1 r0 v H1 l1 R1 p1 ⟨w, q1⟩ => ⟨w.ty R1 p1, thenA q1 R1 (S.le l1) fun T2 rs2 as vs H2 l2 R2 p2 q2 pins s σ' u us I i1 i2 =>
    thn (q2.go T2 H2 v vs R2 (p1.le l2) p2 pins s σ' u us I i1 i2) fun _ _ ⟨v', H', I', rl, q⟩ => ⟨v', H', I', rl, q.le (l1.trans l2)⟩⟩
theorem ew_mL0 (slot : Slot "list" name id) (hty : typeOf (.builtin id) = pure (.type "method_descriptor")) (h : EW X sl o rs fun r0 rs1 => IsL rs1 r0 ∧ MV X id r0 [] rs1 Q)
    (hbase : attributeBase o name X.env (eval o X.env) = eval o X.env := by rfl) (hline : (apos.endLine == cpos.line) = true := by rfl) : EW X sl (.Call (.Attribute o name apos) [] [] cpos) rs Q :=
  ew_of (pe_bm0 PySem.F.plainAttrs_list slot hty mt_S pe_S hbase hline) fun T σ H R S => then1 h R S fun T1 rs1 r0 v H1 l1 R1 p1 ⟨w, q1⟩ => ⟨w.ty R1 p1, fun pins s σ' u us I i1 i2 =>
    thn (q1.go T1 H1 v [] R1 p1 .nil pins s σ' u us I i1 i2) fun _ _ ⟨v', H', I', rl, q⟩ => ⟨v', H', I', rl, q.le l1⟩⟩
theorem ew_mS (slot : Slot "str" name id) (hty : typeOf (.builtin id) = pure (.type "method_descriptor")) (h : EW X sl o rs fun r0 rs1 => ∃ x, r0 = .sh (.str x) ∧ EW X sl e rs1 fun a rs2 => MV X id r0 [a] rs2 Q)
    (hs : starEach [e] X.env = [(false, eval e X.env)] := by rfl) (hbase : attributeBase o name X.env (eval o X.env) = eval o X.env := by rfl) (hline : (apos.endLine == cpos.line) = true := by rfl)
    (hfew : ((backTo cpos (starEach [e] X.env)).all (fun x => !x.1) && (backToKw cpos (keywordEach [] X.env)).all (fun x => x.1.isSome)
      && decide ([e].length + ([] : List Keyword).length + (if ([] : List Keyword).isEmpty then 0 else 1) < 30)) = true := by rfl) :
    EW X sl (.Call (.Attribute o name apos) [e] [] cpos) rs Q :=
  ew_of (pe_bm PySem.F.plainAttrs_str slot hty mt_S pe_S pa_S hbase hfew hline hs (by rfl)) fun T σ H R S => then1 h R S fun T1 rs1 r0 v H1 l1 R1 p1 ⟨x, e0, q1⟩ => by
    subst e0
    refine ⟨by rw [strOf p1]; rfl, ?_⟩
    refine thenA (P := fun as rs2 => ∃ a, as = [a] ∧ MV X id (.sh (.str x)) [a] rs2 Q) ?_ R1 (S.le l1) fun T2 rs2 as vs H2 l2 R2 p2 ⟨a, e0, q2⟩ pins s σ' u us I i1 i2 => ?_
    · exact aw_cons (q1.mono fun r rs' q => aw_nil ⟨r, rfl, q⟩) hs
    · subst e0
      exact thn (q2.go T2 H2 v vs R2 (p1.le l2) p2 pins s σ' u us I i1 i2) fun _ _ ⟨v', H', I', rl, q⟩ => ⟨v', H', I', rl, q.le (l1.trans l2)⟩
end
theorem own_lst {K : PySem.W.Frag} {T : Tw} {H : Hp} {ds : List Da} (R : RepH K T rs H) (e : rs[k]? = some (.lst ds)) : T.own (T.ad k) = some k ∧ k < rs.length ∧ ∃ vs, H (T.ad k) = some (.lst vs) ∧ Rps K T.H0 vs ds := by
  obtain ⟨h1, vs, h2, h3⟩ := R.rs _ _ e
  exact ⟨h1, (List.getElem?_eq_some_iff.mp e).1, vs, h2, h3⟩
theorem write_lst {K : PySem.W.Frag} {T : Tw} {H : Hp} {vs : List V} {ds : List Da} (R : RepH K T rs H) (ho : T.own (T.ad k) = some k) (hk : k < rs.length) (rp : Rps K T.H0 vs ds) : RepH K T (rs.set k (.lst ds)) (upd H (T.ad k) (.lst vs)) :=
  R.write ho ⟨ho, vs, upd_same, rp⟩ hk
theorem mv_append {d : Da} {ds : List Da} (e : rs[k]? = some (.lst ds)) (hl : ds.length < 100000) (q : Q (.sh .non) (rs.set k (.lst (ds ++ [d])))) : MV X "list.append" (.rf k) [.sh d] rs Q :=
  mv_of mt_append fun T H v vs R p pp2 => by
    obtain ⟨w, rfl, p2⟩ := rp1 pp2
    obtain ⟨ho, hk, us, h2, h3⟩ := own_lst R e
    exact ⟨_, us, w, p.2, rfl, h2, by rw [h3.len]; exact Nat.lt_of_lt_of_le hl (by decide), T, _, .sh .non, .refl T, write_lst R ho hk (h3.app (.one p2)), .non, q⟩
theorem rps_dropLast {K : PySem.W.Frag} {H : Hp} {vs : List V} {ds : List Da} (h : Rps K H vs ds) : Rps K H vs.dropLast ds.dropLast := by
  rw [List.dropLast_eq_take, List.dropLast_eq_take, h.len]; exact h.take _
theorem mv_pop {ds : List Da} {d : Da} (e : rs[k]? = some (.lst ds)) (hd : ds[ds.length - 1]? = some d) (q : Q (.sh d) (rs.set k (.lst ds.dropLast))) : MV X "list.pop" (.rf k) [] rs Q :=
  mv_of mt_pop fun T H v vs R p p2 => by
    cases p2
    obtain ⟨ho, hk, us, h2, h3⟩ := own_lst R e
    obtain ⟨w, hw, rw'⟩ := h3.get hd
    exact ⟨_, us, w, p.2, rfl, h2, by rw [h3.len]; exact hw, T, _, .sh d, .refl T, write_lst R ho hk (rps_dropLast h3), rw', q⟩
theorem rps_erase {K : PySem.W.Frag} {H : Hp} {vs : List V} {ds : List Da} (h : Rps K H vs ds) (i : Nat) : Rps K H (vs.eraseIdx i) (ds.eraseIdx i) := by
  rw [List.eraseIdx_eq_take_drop_succ, List.eraseIdx_eq_take_drop_succ]; exact (h.take _).app (h.drop _)
theorem seqIx {i n : Nat} (h : i < n) : seqIndex? (i : Int) n = some i := by
  unfold seqIndex?
  first | (simp; omega) | (simp [h]) | skip
theorem mv_popAt {ds : List Da} {d : Da} {i : Nat} (e : rs[k]? = some (.lst ds)) (hd : ds[i]? = some d) (hi : i < 100000) (q : Q (.sh d) (rs.set k (.lst (ds.eraseIdx i)))) : MV X "list.pop" (.rf k) [.sh (.int (i : Int))] rs Q :=
  mv_of mt_popAt fun T H v vs R p pp2 => by
    obtain ⟨w, rfl, p2⟩ := rp1 pp2
    obtain ⟨ho, hk, us, h2, h3⟩ := own_lst R e
    obtain ⟨w', hw, rw'⟩ := h3.get hd
    have hl : i < us.length := (List.getElem?_eq_some_iff.mp hw).1
    exact ⟨_, us, i, i, w', p.2, by rw [intOf p2], h2, by omega, by omega, seqIx hl, hw, T, _, .sh d, .refl T, write_lst R ho hk (rps_erase h3 i), rw', q⟩
theorem mv_clear {ds : List Da} (e : rs[k]? = some (.lst ds)) (q : Q (.sh .non) (rs.set k (.lst []))) : MV X "list.clear" (.rf k) [] rs Q :=
  mv_of mt_clear fun T H v vs R p p2 => by
    cases p2
    obtain ⟨ho, hk, us, h2, h3⟩ := own_lst R e
    exact ⟨_, us, p.2, rfl, h2, T, _, .sh .non, .refl T, write_lst R ho hk .nil, .non, q⟩
theorem mv_partition {a b : Str} (hb : (b.length == 0) = false) (hl : a.length ≤ 1000000) (q : Q (.sh (.tup [.str (Txt.partition a b).1, .str (Txt.partition a b).2.1, .str (Txt.partition a b).2.2])) rs) : MV X "str.partition" (.sh (.str a)) [.sh (.str b)] rs Q :=
  mv_of mt_partition fun T H v vs R p pp2 => by
    obtain ⟨w, rfl, p2⟩ := rp1 pp2
    refine ⟨a, b, strOf p, by rw [strOf p2], hb, Nat.le_trans hl (by decide), fun pp hp => ?_⟩
    obtain ⟨R2, l2⟩ := R.share (o := .tup [.str (Txt.partition a b).1, .str (Txt.partition a b).2.1, .str (Txt.partition a b).2.2]) hp
    exact ⟨_, rs, .sh (.tup _), l2, R2, Rp.tup upd_same (.cons (.str _) (.cons (.str _) (.one (.str _)))), q⟩
theorem mv_split {a b : Str} (hb : (b.length == 0) = false) (hl : a.length ≤ 1000000) (q : Q (.sh (.lst ((Txt.split a b).map Da.str))) rs) : MV X "str.split" (.sh (.str a)) [.sh (.str b)] rs Q :=
  mv_of mt_split fun T H v vs R p pp2 => by
    obtain ⟨w, rfl, p2⟩ := rp1 pp2
    refine ⟨a, b, strOf p, by rw [strOf p2], hb, Nat.le_trans (Nat.add_le_add_right hl 2) (by decide), fun pp hp => ?_⟩
    obtain ⟨R2, l2⟩ := R.share (o := .lst ((Txt.split a b).map V.str)) hp
    exact ⟨_, rs, .sh (.lst _), l2, R2, Rp.lst upd_same (Rps.ofStrs _), q⟩
theorem mv_join {a : Str} {ys : List Str} (w : Vw rs r1 (.lst (ys.map Da.str))) (hl : (ys.map (·.length)).sum + ys.length * a.length ≤ 1000000) (q : Q (.sh (.str (Txt.join a ys))) rs) : MV X "str.join" (.sh (.str a)) [r1] rs Q :=
  mv_of mt_join fun T H v vs R p pp => by
    obtain ⟨u, rfl, p2⟩ := rp1 pp
    obtain ⟨ad, us, e, hs, rp⟩ := w.lstv R p2
    have e2 := rp.toStrs
    subst e2
    exact ⟨a, ad, ys, strOf p, by rw [e], .inl hs, Nat.le_trans hl (by decide), T, rs, .sh (.str _), .refl T, R, .str _, q⟩

/-! ## things that hold things -/
theorem rpvs_get {K : PySem.W.Frag} {T : Tw} {r : Rv} : ∀ {vs : List V} {rr : List Rv} {i : Nat}, RpVs K T vs rr → rr[i]? = some r → ∃ v, vs[i]? = some v ∧ RpV K T v r
  | _, _, _, .nil, e => by simp at e
  | _, _, 0, .cons a _, e => by simp at e; subst e; exact ⟨_, rfl, a⟩
  | _, _, i + 1, .cons _ t, e => by
    obtain ⟨u, h1, h2⟩ := rpvs_get (i := i) t (by simpa using e)
    exact ⟨u, by simpa using h1, h2⟩
theorem rpvs_set {K : PySem.W.Frag} {T : Tw} {v : V} {r : Rv} (q : RpV K T v r) : ∀ {vs : List V} {rr : List Rv} (i : Nat), RpVs K T vs rr → RpVs K T (vs.set i v) (rr.set i r)
  | _, _, _, .nil => .nil
  | _, _, 0, .cons _ t => .cons q t
  | _, _, i + 1, .cons a t => .cons a (rpvs_set q i t)
theorem ew_ixR {a b : Expr} {pos : Pos} (h : EW X sl a rs fun r1 rs1 => EW X sl b rs1 fun r2 rs2 => ∃ k rr i r, r1 = .rf k ∧ rs2[k]? = some (.lstR rr) ∧ r2 = .sh (.int i) ∧ atI rr i = some r ∧ Q r rs2) (hp : PlainIx b := by exact (fun _ _ => rfl)) : EW X sl (.Subscript a b pos) rs Q :=
  ixR_of ix_list hp h (fun T H v1 v2 r1 r2 rs2 ⟨k, rr, i, r, e1, e2, e3, e4, q⟩ R p1 p2 => by
    subst e1 e3
    obtain ⟨ho, vs, h2, h3⟩ := R.rs _ _ e2
    have : ∃ u, atI vs i = some u ∧ RpV X.K T u r := by
      unfold atI at e4 ⊢
      rw [h3.len]
      cases e : ixN rr.length i with
      | none => rw [e] at e4; cases e4
      | some j => rw [e] at e4; exact rpvs_get h3 e4
    obtain ⟨u, h4, h5⟩ := this
    exact ⟨_, vs, i, u, p1.2, intOf p2, SqL.of h2, h4, epost R h5 q⟩) fun v1 v2 H P Q k ⟨a, b, c, d, e1, e2, e3, e4, q⟩ => ⟨a, b, c, d, e1, e2, e3, e4, k _ _ q⟩
/-- a list display that holds things of ours -/
theorem ew_lstR {es : List Expr} {pos : Pos} (h : AW X sl es rs fun as rs1 => as.length ≤ 100000 ∧ Q (.rf rs1.length) (rs1 ++ [.lstR as])) : EW X sl (.List es pos) rs Q :=
  ew_of (pe_lst pa_S) fun T σ H R S => thenA h R S fun T1 rs1 as vs H1 l1 R1 p1 ⟨hl, q1⟩ => by
    refine ⟨by rw [p1.len]; exact Nat.le_trans hl (by decide), fun p hp => ?_⟩
    refine ⟨_, _, .rf rs1.length, l1.trans (T1.le_more p), R1.make (r := .lstR as) hp ⟨?_, vs, ?_, p1.le (T1.le_more p)⟩, at_more R1 p, q1⟩
    · show (if (if T1.n = T1.n then p else T1.ad T1.n) = p then some T1.n else _) = _; rw [if_pos rfl, if_pos rfl]
    · show upd H1 p (.lst vs) (if T1.n = T1.n then p else T1.ad T1.n) = _; rw [if_pos rfl]; exact upd_same
/-- a[i] = v -/
inductive SetD (rs : List Res) (q : List Res → Prop) : Rv → Rv → Rv → Prop
  | lst {k : Nat} {ds : List Da} {i : Int} {j : Nat} {d : Da} : rs[k]? = some (.lst ds) → ixN ds.length i = some j → q (rs.set k (.lst (ds.set j d))) → SetD rs q (.rf k) (.sh (.int i)) (.sh d)
  | lstR {k : Nat} {ds : List Rv} {i : Int} {j : Nat} {d : Rv} : rs[k]? = some (.lstR ds) → ixN ds.length i = some j → q (rs.set k (.lstR (ds.set j d))) → SetD rs q (.rf k) (.sh (.int i)) d
theorem s_ixset {o i e : Expr} {pos p2 : Pos} {R : Out} (h : EW X sl e rs fun rv rs1 => EW X sl o rs1 fun r0 rs2 => EW X sl i rs2 fun ri rs3 => SetD rs3 (fun rs4 => R.nx sl rs4) r0 ri rv)
    (ha : ∀ v, assign (.Subscript o i p2) X.env v = (do
      let ov ← holding [v] (eval o X.env)
      let iv ← holding [v, ov] (eval i X.env)
      standAt p2
      holding [v, ov, iv] (setItem ov iv v)
      release [v, ov, iv] []) := by intro _; rfl) (hs : swapsWithSole [.Subscript o i p2] e pos.line X.env = pure false := by rfl) (hw : swappedStores [.Subscript o i p2] e X.env = pure none := by rfl)
    (h1 : (assignEach [.Subscript o i p2] X.env).map (·.2) = [assign (.Subscript o i p2) X.env] := by rfl) : S1 X sl (.Assign [.Subscript o i p2] e pos) rs R :=
  s1_of (ps_asg pe_S (pg_sub pe_S pe_S set_list ha) hs hw h1) fun T σ H hR S => then1 h hR S fun T1 rs1 rv v H1 l1 R1 p1 q1 => then1 q1 R1 (S.le l1) fun T2 rs2 r0 v0 H2 l2 R2 p2 q2 => then1 q2 R2 (S.le (l1.trans l2)) fun T3 rs3 ri vi H3 l3 R3 p3 q3 => by
    have ll := (l1.trans l2).trans l3
    have pv := p1.le (l2.trans l3)
    have po := p2.le l3
    cases q3 with
    | lst e1 e2 q =>
      obtain ⟨ho, hk, us, h2, h3⟩ := own_lst R3 e1
      exact ⟨_, us, _, _, po.2, intOf p3, h2, by rw [h3.len]; exact e2, T3, sl, _, ll, write_lst R3 ho hk (h3.set pv _), S.le ll, q⟩
    | lstR e1 e2 q =>
      obtain ⟨ho, us, h2, h3⟩ := R3.rs _ _ e1
      exact ⟨_, us, _, _, po.2, intOf p3, h2, by rw [h3.len]; exact e2, T3, sl, _, ll, R3.write (r' := .lstR _) ho ⟨ho, _, upd_same, rpvs_set pv _ h3⟩ (List.getElem?_eq_some_iff.mp e1).1, S.le ll, q⟩
end
end DL

set_option Elab.async false
set_option linter.all false
set_option maxRecDepth 100000
set_option maxHeartbeats 4000000
namespace DL
open PySem PySem.Spec L2
open PyProof.Rows (envOfC)

section
variable {X : Cx} {sl : Sl} {rs rs2 : List Res} {Q : EQ} {e : Expr} {es : List Expr} {sts : List Stmt} {R : Out} {k : Nat}
theorem ew_gh (h : EW X sl e rs fun r rs1 => ∃ rs2, Gh X.K rs1 rs2 ∧ Q r rs2) : EW X sl e rs Q := ⟨fun T σ H a b => (h T σ H a b).mono fun v H' ⟨T', rs', r, l, R', p, rs2, g, q⟩ => by
  obtain ⟨T2, l2, R2⟩ := g T' H' R'
  exact ⟨T2, rs2, r, l.trans l2, R2, p.le l2, q⟩⟩
theorem aw_gh {Q : AQ} (h : AW X sl es rs fun r rs1 => ∃ rs2, Gh X.K rs1 rs2 ∧ Q r rs2) : AW X sl es rs Q := ⟨fun T σ H a b => (h T σ H a b).mono fun v H' ⟨T', rs', r, l, R', p, rs2, g, q⟩ => by
  obtain ⟨T2, l2, R2⟩ := g T' H' R'
  exact ⟨T2, rs2, r, l.trans l2, R2, p.le l2, q⟩⟩
theorem sw_gh (g : Gh X.K rs rs2) (h : SW X sl sts rs2 R) : SW X sl sts rs R := ⟨fun T σ H a b => by
  obtain ⟨T2, l2, R2⟩ := g T H a
  exact (h T2 σ H R2 (b.le l2)).mono (dof.le l2 R)⟩
theorem gh_frz {K : PySem.W.Frag} {ds : List Da} (h : rs[k]? = some (.lst ds)) : Gh K rs (rs.set k (.frz (.lst ds))) := fun T H R => R.freeze h
theorem gh_off {K : PySem.W.Frag} : Gh K rs (rs.set k .off) := fun T H R => ⟨T, .refl T, by rw [List.length_set]; exact R.n, R.h0, R.fr, R.dj, R.df, fun j r e => by
  by_cases hj : k = j
  · subst hj
    by_cases hk : k < rs.length
    · rw [List.getElem?_set_self hk] at e; cases e; trivial
    · rw [List.getElem?_eq_none (by rw [List.length_set]; omega)] at e; cases e
  · rw [List.getElem?_set_ne hj] at e; exact R.rs j r e, R.tu⟩
/-- slots told less of; a slot whose thing has come to stay -/
theorem sw_sl {sl2 : Sl} (g : ∀ T σ H, RepH X.K T rs H → SlOk X.K T sl σ → SlOk X.K T sl2 σ) (h : SW X sl2 sts rs R) : SW X sl sts rs R := ⟨fun T σ H a b => h T σ H a (g T σ H a b)⟩
theorem sw_weak {sl2 : Sl} (w : Sle sl sl2) (h : SW X sl2 sts rs R) : SW X sl sts rs R := sw_sl (fun _ _ _ _ b => b.weak w) h

/-- the tray opened: its list the last thing -/
def Tw.opn (T : Tw) (g : Addr) : Tw := { T with own := fun a => if a = g then some T.n else T.own a, n := T.n + 1, ad := fun k => if k = T.n then g else T.ad k }
theorem open0 {K : PySem.W.Frag} {T : Tw} {H : Hp} (R : RepH K T rs H) {b : Nat} (h : rs[k]? = some (.tray 0 b)) : ∃ (T' : Tw) (gs : List Int) (n f u : Int), gs.length ≤ 63 ∧ 0 ≤ f ∧ f < 2 ^ 61 ∧ 0 ≤ u ∧ u ≤ b ∧ T.le T' ∧
    RepH K T' (rs.set k (.lstR [.rf rs.length, .sh (.int n), .sh (.int f), .sh (.int u)]) ++ [.lst (gs.map Da.int)]) H := by
  obtain ⟨h1, g, gs, n, f, u, h2, h3, h4, h5, h6, h7, h8, h9, h10⟩ := R.rs _ _ h
  have hk : k < rs.length := (List.getElem?_eq_some_iff.mp h).1
  have kn : k ≠ T.n := by rw [← R.n]; omega
  have le0 : T.le (T.opn g) := ⟨.refl _, rfl, Nat.le_succ _, fun j hj => if_neg (by omega)⟩
  have ownG : (T.opn g).own g = some T.n := if_pos rfl
  have adN : (T.opn g).ad T.n = g := if_pos rfl
  refine ⟨T.opn g, gs, n, f, u, h6, h7, h8, h9, h10, le0, by rw [List.length_append, List.length_set, R.n]; rfl, R.h0, R.fr, fun a j e => ?_, R.df, fun j r e => ?_, R.tu⟩
  · by_cases ha : a = g
    · subst ha; exact R.dj a k h2
    · exact R.dj a j (by rw [← e]; exact (if_neg ha).symm)
  · by_cases hj : j < rs.length
    · rw [List.getElem?_append_left (by rw [List.length_set]; exact hj)] at e
      by_cases hkj : k = j
      · subst hkj
        rw [List.getElem?_set_self hk] at e
        cases e
        refine ⟨?_, [V.ref g, .int n, .int f, .int u], ?_, .cons ⟨?_, ?_⟩ (.cons (.int n) (.cons (.int f) (.cons (.int u) .nil)))⟩
        · show (if (if k = T.n then g else T.ad k) = g then some T.n else T.own (if k = T.n then g else T.ad k)) = some k
          rw [if_neg kn, if_neg (Ne.symm h3)]; exact h1
        · show H (if k = T.n then g else T.ad k) = _
          rw [if_neg kn]; exact h4
        · rw [R.n]; exact Nat.lt_succ_self _
        · rw [R.n]; exact congrArg V.ref adN.symm
      · rw [List.getElem?_set_ne hkj] at e
        refine (R.rs j r e).keep le0 (R.lt e) fun a ha => ⟨?_, fun _ q => q⟩
        show (if a = g then some T.n else T.own a) = some j
        rw [if_neg (fun z => hkj (by rw [z] at ha; rw [ha] at h2; exact (Option.some.inj h2).symm))]; exact ha
    · have hj2 : j = rs.length := by
        have := (List.getElem?_eq_some_iff.mp e).1
        rw [List.length_append, List.length_set, List.length_singleton] at this
        omega
      subst hj2
      rw [List.getElem?_append_right (by rw [List.length_set]; exact Nat.le_refl _), List.length_set, Nat.sub_self] at e
      have e : Res.lst (gs.map Da.int) = r := Option.some.inj e
      subst e
      rw [R.n]
      exact ⟨by rw [adN]; exact ownG, _, by rw [adN]; exact h5, Rps.ofInts gs⟩
theorem sw_open0 {bd : Nat} (h : rs[k]? = some (.tray 0 bd)) (hh : ∀ (gs : List Int) (n f u : Int), gs.length ≤ 63 → 0 ≤ f → f < 2 ^ 61 → 0 ≤ u → u ≤ bd → SW X sl sts (rs.set k (.lstR [.rf rs.length, .sh (.int n), .sh (.int f), .sh (.int u)]) ++ [.lst (gs.map Da.int)]) R) : SW X sl sts rs R := ⟨fun T σ H a b => by
  obtain ⟨T', gs, n, f, u, h1, h2, h3, h4, h5, l, R'⟩ := open0 a h
  exact (SW.go (hh gs n f u h1 h2 h3 h4 h5) T' σ H R' (b.le l)).mono (dof.le l R)⟩
theorem close0 {K : PySem.W.Frag} {m bd : Nat} {gs : List Int} {n f u : Int} (h : rs[k]? = some (.lstR [.rf m, .sh (.int n), .sh (.int f), .sh (.int u)])) (hm : rs[m]? = some (.lst (gs.map Da.int))) (hl : gs.length ≤ 63) (h1 : 0 ≤ f) (h2 : f < 2 ^ 61) (h3 : 0 ≤ u) (h4 : u ≤ bd) :
    Gh K rs ((rs.set k (.tray 0 bd)).set m .off) := fun T H R => by
  obtain ⟨a1, vs, a2, a3⟩ := R.rs _ _ h
  obtain ⟨b1, ws, b2, b3⟩ := R.rs _ _ hm
  have hkm : k ≠ m := fun z => by subst z; rw [h] at hm; cases hm
  have hk := (List.getElem?_eq_some_iff.mp h).1
  have hml := (List.getElem?_eq_some_iff.mp hm).1
  have adne : T.ad k ≠ T.ad m := fun z => by rw [z, b1] at a1; exact hkm (Option.some.inj a1).symm
  have ew := b3.toInts
  subst ew
  have ev : vs = [.ref (T.ad m), .int n, .int f, .int u] := by
    cases a3 with
    | cons p1 t1 => cases t1 with
      | cons p2 t2 => cases t2 with
        | cons p3 t3 => cases t3 with
          | cons p4 t4 => cases t4; rw [p1.2, intOf p2, intOf p3, intOf p4]
  subst ev
  have le0 : T.le { T with own := fun a => if a = T.ad m then some k else T.own a } := ⟨.refl _, rfl, Nat.le_refl _, fun _ _ => rfl⟩
  refine ⟨{ T with own := fun a => if a = T.ad m then some k else T.own a }, le0, by rw [List.length_set, List.length_set]; exact R.n, R.h0, R.fr, fun a j e => ?_, R.df, fun j r e => ?_, R.tu⟩
  · by_cases ha : a = T.ad m
    · subst ha; exact R.dj _ m b1
    · exact R.dj a j (by rw [← e]; exact (if_neg ha).symm)
  · by_cases hjm : m = j
    · subst hjm
      rw [List.getElem?_set_self (by rw [List.length_set]; exact hml)] at e
      cases e; trivial
    · rw [List.getElem?_set_ne hjm] at e
      by_cases hjk : k = j
      · subst hjk
        rw [List.getElem?_set_self hk] at e
        cases e
        refine ⟨by show (if T.ad k = T.ad m then some k else T.own (T.ad k)) = some k; rw [if_neg adne]; exact a1, T.ad m, gs, n, f, u, if_pos rfl, Ne.symm adne, a2, b2, hl, h1, h2, h3, h4⟩
      · rw [List.getElem?_set_ne hjk] at e
        refine (R.rs j r e).keep le0 (R.lt e) fun a ha => ⟨?_, fun _ q => q⟩
        show (if a = T.ad m then some k else T.own a) = some j
        rw [if_neg (fun z => hjm (by rw [z, b1] at ha; exact Option.some.inj ha))]; exact ha

/-! ## calls by keywords alone -/
theorem pe_callK0 {CX : CXT} {k : Nat} {f : Addr} {fd : FuncData} {ps ks : List Str} {sp : Sp} {E : XK} {x : Str} {p pos : Pos} {kws : List Keyword} {tk : TA} {g : List Value → List Value → List Value} {gV : List V → List V → List V}
    (F : FnOk X.prog X.w X.K X.mg X.base CX k f fd ps sp) (hr : Room k X.A) (hg : Gl X x) (hm : X.mg x = some (.ref f)) (hk : PySem.W.keepIn X.K (.ref f) = true) (hb : KBinds X.K fd ps ks g gV) (hx : Passes CX X E)
    (hkw : PK X kws tk) (hall : (backToKw pos (keywordEach kws X.env)).all (·.1.isSome) = true := by rfl) (hks : (backToKw pos (keywordEach kws X.env)).filterMap (·.1) = ks := by rfl)
    (hdb : (x == ("__debug__" : Str)) = false := by decide) (hpl : ((backTo pos (starEach [] X.env)).any (·.1) || (backToKw pos (keywordEach kws X.env)).any (·.1.isNone)) = false := by rfl) :
    PE X (.Call (.Name x p) [] kws pos) (tCallK sp gV E tNil tk) := by
  refine ⟨fun pins s σ H Q I h => ?_⟩
  refine wpAny_Call_Name_kw (ld_glob I hg hm ?_ hdb)
  refine PySem.W.callWith_KW0 (h₀ := X.base) I.ok.mod.kin hk hall (thn (hkw.run pos pins s σ H _ I h) fun ws s2 ⟨zs, H2, I2, rz, q2⟩ => ⟨I2.kIn, ?_⟩) hpl
  rw [hks]
  exact run_fnk F hr hb hx I2 .nil rz q2
def tkS (X : Cx) (kws : List Keyword) : TA := fun σ H Q => ∀ (pos : Pos) (pins : List (Addr × Obj)) (s : Shared), Inv X pins σ H s → wpAny (model X.prog X.w) X.A (evalAll ((backToKw pos (keywordEach kws X.env)).map (·.2))) (AP X pins σ Q) X.xe s
theorem pk_S {kws : List Keyword} : PK X kws (tkS X kws) := ⟨fun pos pins s _ _ _ I h => h pos pins s I⟩
structure KW (X : Cx) (sl : Sl) (kws : List Keyword) (rs : List Res) (Q : AQ) : Prop where
  go : ∀ T σ H, RepH X.K T rs H → SlOk X.K T sl σ → tkS X kws σ H (APost X.K T Q)
theorem tkS.mono {kws : List Keyword} {σ : L2.St} {H : Hp} {P Q : List V → Hp → Prop} (h : tkS X kws σ H P) (k : ∀ v H', P v H' → Q v H') : tkS X kws σ H Q := fun pos pins s I => thn (h pos pins s I) fun _ _ ⟨v, H', a, b, c⟩ => ⟨v, H', a, b, k v H' c⟩
theorem kw_nil {Q : AQ} (q : Q [] rs) : KW X sl [] rs Q := ⟨fun T σ H a b pos pins s I => pk_nil.run pos pins s σ H _ I ⟨T, rs, [], .refl T, a, .nil, q⟩⟩
theorem kw_cons {Q : AQ} {nm : Option Str} {kpos : Pos} {kws : List Keyword} (h : EW X sl e rs fun r rs1 => KW X sl kws rs1 fun as rs2 => Q (r :: as) rs2) : KW X sl (⟨nm, e, kpos⟩ :: kws) rs Q := ⟨fun T σ H a b pos pins s I =>
  (pk_cons pe_S pk_S).run pos pins s σ H _ I (then1 h a b fun T1 rs1 r1 v1 H1 l1 R1 p1 q1 => (q1.go T1 σ H1 R1 (b.le l1)).mono fun vs H2 ⟨T2, rs2, as, l2, R2, p2, q2⟩ => ⟨T2, rs2, r1 :: as, l1.trans l2, R2, .cons (p1.le l2) p2, q2⟩)⟩
/-- how keywords alone bind: the parameters' order is a reordering -/
structure KwB (P : Program) (w : World) (K : PySem.W.Frag) (mg : Str → Option Value) (base : Heap) (x : Str) (ps ks : List Str) (ix : List Nat) (k : Nat) (c : Ct) : Prop where
  ex : ∃ f fd, mg x = some (.ref f) ∧ PySem.W.keepIn K (.ref f) = true ∧ KBinds K fd ps ks (fun _ ws => ix.map fun i => ws.getD i .none) (fun _ zs => ix.map fun i => zs.getD i .non) ∧ FnOk P w K mg base CX0 k f fd ps (cSp K c)
  mono : Mono c
theorem rpvs_map {K : PySem.W.Frag} {T : Tw} {vs : List V} {rr : List Rv} (h : RpVs K T vs rr) : ∀ (ix : List Nat), RpVs K T (ix.map fun i => vs.getD i .non) (ix.map fun i => rr.getD i (.sh .non))
  | [] => .nil
  | i :: ix => by
    refine .cons ?_ (rpvs_map h ix)
    have hl := h.len
    show RpV K T (vs.getD i .non) (rr.getD i (.sh .non))
    by_cases hi : i < rr.length
    · obtain ⟨v, h1, h2⟩ := rpvs_get h (List.getElem?_eq_getElem hi)
      rw [List.getD_eq_getElem?_getD, List.getD_eq_getElem?_getD, h1, List.getElem?_eq_getElem hi]; exact h2
    · rw [List.getD_eq_getElem?_getD, List.getD_eq_getElem?_getD, List.getElem?_eq_none (by omega), List.getElem?_eq_none (by omega)]; exact .non
theorem ew_callK0 {x : Str} {p pos : Pos} {c : Ct} {ps ks : List Str} {ix : List Nat} {kws : List Keyword} (F : KwB X.prog X.w X.K X.mg X.base x ps ks ix k c) (hr : Room k X.A) (h : KW X sl kws rs fun as rs1 => Kc c (ix.map fun i => as.getD i (.sh .non)) rs1 Q) (hg : Gl X x := by rfl)
    (hall : (backToKw pos (keywordEach kws X.env)).all (·.1.isSome) = true := by rfl) (hks : (backToKw pos (keywordEach kws X.env)).filterMap (·.1) = ks := by rfl)
    (hdb : (x == ("__debug__" : Str)) = false := by decide) (hpl : ((backTo pos (starEach [] X.env)).any (·.1) || (backToKw pos (keywordEach kws X.env)).any (·.1.isNone)) = false := by rfl) : EW X sl (.Call (.Name x p) [] kws pos) rs Q := by
  obtain ⟨f, fd, hm, hk, hb, G⟩ := F.ex
  refine ew_of (pe_callK0 G hr hg hm hk hb pass0 pk_S hall hks hdb hpl) fun T σ H R S => (h.go T σ H R S).mono fun vs H1 ⟨T1, rs1, as, l1, R1, p1, q1⟩ => ?_
  have q := Kc.sp (E := E0) q1 R1 (rpvs_map p1 ix) F.mono
  obtain ⟨T', rs', as', a, b, d⟩ := q
  exact ⟨T', rs', as', a, b, F.mono _ _ _ _ (fun r rs'' q v T'' H'' l R'' p'' => (q v T'' H'' l R'' p'').le l1) d⟩
theorem kwB_mk {P : Program} {w : World} {K : PySem.W.Frag} {mg : Str → Option Value} {base : Heap} {x : Str} {ps ks : List Str} {ix : List Nat} {c : Ct} {f : Addr} {fd : FuncData} (h1 : mg x = some (.ref f)) (h2 : PySem.W.keepIn K (.ref f) = true) (h3 : FnOk P w K mg base CX0 k f fd ps (cSp K c)) (hm : Mono c)
    (hb : ∀ (s : Shared) (ws : List Value), ws.length = ks.length → BindsTo s fd ⟨[], ks.zip ws⟩ (ps.zip (ix.map fun i => ws.getD i .none))) (hlen : ix.length = ps.length) (hks : ks.length = ix.length) : True := trivial
end
end DL

set_option Elab.async false
set_option linter.all false
set_option maxRecDepth 100000
set_option maxHeartbeats 4000000
namespace DL
open PySem PySem.Spec L2
section
variable {X : Cx} {sl : Sl} {rs : List Res} {Q : EQ} {e a b : Expr} {es : List Expr} {p pos : Pos} {i j : Int}
abbrev st1 (X : Cx) (e : Expr) (es : List Expr) : Prop := starEach (e :: es) X.env = (false, eval e X.env) :: starEach es X.env
theorem eb_len (hm : X.mg "len" = none) (h : AW X sl (e :: es) rs fun as rs1 => CV X (.builtin "len") as rs1 Q) (hg : Gl X "len" := by rfl) (he : st1 X e es := by rfl) (hpl : (backTo pos (starEach es X.env)).any (·.1) = false := by rfl) : EW X sl (.Call (.Name "len" p) (e :: es) [] pos) rs Q := ew_callB hm (by decide +kernel) h hg (by decide) (by decide) he hpl
theorem eb_max (hm : X.mg "max" = none) (h : AW X sl (e :: es) rs fun as rs1 => CV X (.builtin "max") as rs1 Q) (hg : Gl X "max" := by rfl) (he : st1 X e es := by rfl) (hpl : (backTo pos (starEach es X.env)).any (·.1) = false := by rfl) : EW X sl (.Call (.Name "max" p) (e :: es) [] pos) rs Q := ew_callB hm (by decide +kernel) h hg (by decide) (by decide) he hpl
theorem eb_min (hm : X.mg "min" = none) (h : AW X sl (e :: es) rs fun as rs1 => CV X (.builtin "min") as rs1 Q) (hg : Gl X "min" := by rfl) (he : st1 X e es := by rfl) (hpl : (backTo pos (starEach es X.env)).any (·.1) = false := by rfl) : EW X sl (.Call (.Name "min" p) (e :: es) [] pos) rs Q := ew_callB hm (by decide +kernel) h hg (by decide) (by decide) he hpl
theorem eb_abs (hm : X.mg "abs" = none) (h : AW X sl (e :: es) rs fun as rs1 => CV X (.builtin "abs") as rs1 Q) (hg : Gl X "abs" := by rfl) (he : st1 X e es := by rfl) (hpl : (backTo pos (starEach es X.env)).any (·.1) = false := by rfl) : EW X sl (.Call (.Name "abs" p) (e :: es) [] pos) rs Q := ew_callB hm (by decide +kernel) h hg (by decide) (by decide) he hpl
theorem eb_all (hm : X.mg "all" = none) (h : AW X sl (e :: es) rs fun as rs1 => CV X (.builtin "all") as rs1 Q) (hg : Gl X "all" := by rfl) (he : st1 X e es := by rfl) (hpl : (backTo pos (starEach es X.env)).any (·.1) = false := by rfl) : EW X sl (.Call (.Name "all" p) (e :: es) [] pos) rs Q := ew_callB hm (by decide +kernel) h hg (by decide) (by decide) he hpl
theorem eb_isi (hm : X.mg "isinstance" = none) (h : AW X sl (e :: es) rs fun as rs1 => CV X (.builtin "isinstance") as rs1 Q) (hg : Gl X "isinstance" := by rfl) (he : st1 X e es := by rfl) (hpl : (backTo pos (starEach es X.env)).any (·.1) = false := by rfl) : EW X sl (.Call (.Name "isinstance" p) (e :: es) [] pos) rs Q := ew_callB hm (by decide +kernel) h hg (by decide) (by decide) he hpl
theorem eb_sorted (hm : X.mg "sorted" = none) (h : AW X sl (e :: es) rs fun as rs1 => CV X (.builtin "sorted") as rs1 Q) (hg : Gl X "sorted" := by rfl) (he : st1 X e es := by rfl) (hpl : (backTo pos (starEach es X.env)).any (·.1) = false := by rfl) : EW X sl (.Call (.Name "sorted" p) (e :: es) [] pos) rs Q := ew_callB hm (by decide +kernel) h hg (by decide) (by decide) he hpl
theorem eb_divmod (hm : X.mg "divmod" = none) (h : AW X sl (e :: es) rs fun as rs1 => CV X (.builtin "divmod") as rs1 Q) (hg : Gl X "divmod" := by rfl) (he : st1 X e es := by rfl) (hpl : (backTo pos (starEach es X.env)).any (·.1) = false := by rfl) : EW X sl (.Call (.Name "divmod" p) (e :: es) [] pos) rs Q := ew_callB hm (by decide +kernel) h hg (by decide) (by decide) he hpl
theorem eb_str (hm : X.mg "str" = none) (h : AW X sl (e :: es) rs fun as rs1 => CV X (.type "str") as rs1 Q) (hg : Gl X "str" := by rfl) (he : st1 X e es := by rfl) (hpl : (backTo pos (starEach es X.env)).any (·.1) = false := by rfl) : EW X sl (.Call (.Name "str" p) (e :: es) [] pos) rs Q := ew_callT hm (by decide +kernel) h hg (by decide) (by decide) he hpl
theorem eb_int (hm : X.mg "int" = none) (h : AW X sl (e :: es) rs fun as rs1 => CV X (.type "int") as rs1 Q) (hg : Gl X "int" := by rfl) (he : st1 X e es := by rfl) (hpl : (backTo pos (starEach es X.env)).any (·.1) = false := by rfl) : EW X sl (.Call (.Name "int" p) (e :: es) [] pos) rs Q := ew_callT hm (by decide +kernel) h hg (by decide) (by decide) he hpl
theorem eb_list (hm : X.mg "list" = none) (h : AW X sl (e :: es) rs fun as rs1 => CV X (.type "list") as rs1 Q) (hg : Gl X "list" := by rfl) (he : st1 X e es := by rfl) (hpl : (backTo pos (starEach es X.env)).any (·.1) = false := by rfl) : EW X sl (.Call (.Name "list" p) (e :: es) [] pos) rs Q := ew_callT hm (by decide +kernel) h hg (by decide) (by decide) he hpl
theorem eb_dict (hm : X.mg "dict" = none) (h : AW X sl (e :: es) rs fun as rs1 => CV X (.type "dict") as rs1 Q) (hg : Gl X "dict" := by rfl) (he : st1 X e es := by rfl) (hpl : (backTo pos (starEach es X.env)).any (·.1) = false := by rfl) : EW X sl (.Call (.Name "dict" p) (e :: es) [] pos) rs Q := ew_callT hm (by decide +kernel) h hg (by decide) (by decide) he hpl
theorem eb_tuple (hm : X.mg "tuple" = none) (h : AW X sl (e :: es) rs fun as rs1 => CV X (.type "tuple") as rs1 Q) (hg : Gl X "tuple" := by rfl) (he : st1 X e es := by rfl) (hpl : (backTo pos (starEach es X.env)).any (·.1) = false := by rfl) : EW X sl (.Call (.Name "tuple" p) (e :: es) [] pos) rs Q := ew_callT hm (by decide +kernel) h hg (by decide) (by decide) he hpl
theorem en_bool (hm : X.mg "bool" = none) (q : Q (.sh (.ty "bool")) rs) (hg : Gl X "bool" := by rfl) : EW X sl (.Name "bool" pos) rs Q := ew_bltn hm (by decide +kernel) q hg
theorem en_int (hm : X.mg "int" = none) (q : Q (.sh (.ty "int")) rs) (hg : Gl X "int" := by rfl) : EW X sl (.Name "int" pos) rs Q := ew_bltn hm (by decide +kernel) q hg
theorem en_str (hm : X.mg "str" = none) (q : Q (.sh (.ty "str")) rs) (hg : Gl X "str" := by rfl) : EW X sl (.Name "str" pos) rs Q := ew_bltn hm (by decide +kernel) q hg
theorem en_list (hm : X.mg "list" = none) (q : Q (.sh (.ty "list")) rs) (hg : Gl X "list" := by rfl) : EW X sl (.Name "list" pos) rs Q := ew_bltn hm (by decide +kernel) q hg
theorem en_tuple (hm : X.mg "tuple" = none) (q : Q (.sh (.ty "tuple")) rs) (hg : Gl X "tuple" := by rfl) : EW X sl (.Name "tuple" pos) rs Q := ew_bltn hm (by decide +kernel) q hg
theorem log2_64 {j : Int} (h : -(2 ^ 64) < j ∧ j < 2 ^ 64) : j.natAbs.log2 < 9000 := by
  by_cases h0 : j.natAbs = 0
  · rw [h0]; decide
  · have := (Nat.log2_lt h0 (k := 9000)).mpr (Nat.lt_of_lt_of_le (show j.natAbs < 2 ^ 64 by omega) (Nat.pow_le_pow_right (by decide) (by decide)))
    exact this
theorem bv_fdivs (h : 0 < j ∧ j < 2 ^ 64) (q : Q (.sh (.int (i / j))) rs) : BV X (binaryOp .FloorDiv) (.sh (.int i)) (.sh (.int j)) rs Q := bv_fdiv ⟨h.1, log2_64 ⟨by omega, h.2⟩⟩ q
theorem bv_mulL (h : -(2 ^ 64) < i ∧ i < 2 ^ 64) (q : Q (.sh (.int (i * j))) rs) : BV X (binaryOp .Mult) (.sh (.int i)) (.sh (.int j)) rs Q := bv_muls (.inl h) q
theorem bv_mulR (h : -(2 ^ 64) < j ∧ j < 2 ^ 64) (q : Q (.sh (.int (i * j))) rs) : BV X (binaryOp .Mult) (.sh (.int i)) (.sh (.int j)) rs Q := bv_muls (.inr h) q
/-- powers of written numbers -/
theorem bv_powL {i j r : Int} (hc : CPow i j) (hr : i ^ j.toNat = r) (q : Q (.sh (.int r)) rs) : BV X (binaryOp .Pow) (.sh (.int i)) (.sh (.int j)) rs Q := by
  subst hr; exact bv_pow hc q
theorem bp_2_61 (q : Q (.sh (.int 2305843009213693952)) rs) : BV X (binaryOp .Pow) (.sh (.int 2)) (.sh (.int 61)) rs Q := bv_powL (by unfold CPow; decide) (by decide) q
theorem bp_10_14 (q : Q (.sh (.int 100000000000000)) rs) : BV X (binaryOp .Pow) (.sh (.int 10)) (.sh (.int 14)) rs Q := bv_powL (by unfold CPow; decide) (by decide) q
theorem bp_10_15 (q : Q (.sh (.int 1000000000000000)) rs) : BV X (binaryOp .Pow) (.sh (.int 10)) (.sh (.int 15)) rs Q := bv_powL (by unfold CPow; decide) (by decide) q
theorem bp_10_18 (q : Q (.sh (.int 1000000000000000000)) rs) : BV X (binaryOp .Pow) (.sh (.int 10)) (.sh (.int 18)) rs Q := bv_powL (by unfold CPow; decide) (by decide) q
theorem bp_10_20 (q : Q (.sh (.int 100000000000000000000)) rs) : BV X (binaryOp .Pow) (.sh (.int 10)) (.sh (.int 20)) rs Q := bv_powL (by unfold CPow; decide) (by decide) q
theorem bp_10_29 (q : Q (.sh (.int 100000000000000000000000000000)) rs) : BV X (binaryOp .Pow) (.sh (.int 10)) (.sh (.int 29)) rs Q := bv_powL (by unfold CPow; decide) (by decide) q
theorem bp_10_40 (q : Q (.sh (.int 10000000000000000000000000000000000000000)) rs) : BV X (binaryOp .Pow) (.sh (.int 10)) (.sh (.int 40)) rs Q := bv_powL (by unfold CPow; decide) (by decide) q
theorem bp_10_59 (q : Q (.sh (.int 100000000000000000000000000000000000000000000000000000000000)) rs) : BV X (binaryOp .Pow) (.sh (.int 10)) (.sh (.int 59)) rs Q := bv_powL (by unfold CPow; decide) (by decide) q
theorem bv_powV {i : Int} {n : Nat} (h : -(2 ^ 64) < i ∧ i < 2 ^ 64) (hn : (n : Int) ≤ 1000000) (q : Q (.sh (.int (i ^ n))) rs) : BV X (binaryOp .Pow) (.sh (.int i)) (.sh (.int (n : Int))) rs Q := bv_pow ⟨by omega, hn, by omega⟩ q
end
/-! ## the usual contracts -/
/-- data in, data out -/
def ctP (pre : List Da → Prop) (post : List Da → Da → Prop) : Ct := fun as rs Q => ∃ ds, as = ds.map .sh ∧ rs = [] ∧ pre ds ∧ ∀ d, post ds d → Q (.sh d) []
/-- a drawing thing and data in, data out; c draws at most -/
def ctT (κ c : Nat) (pre : List Da → Prop) (post : List Da → Da → Prop) : Ct := fun as rs Q => ∃ ds n, as = .rf 0 :: ds.map .sh ∧ rs = [.tray κ n] ∧ n + c < 2 ^ 30 ∧ pre ds ∧ ∀ d, post ds d → Q (.sh d) [.tray κ (n + c)]
theorem ctP_mono {pre : List Da → Prop} {post : List Da → Da → Prop} : Mono (ctP pre post) := fun as rs P Q k ⟨ds, a, b, c, q⟩ => ⟨ds, a, b, c, fun d h => k _ _ (q d h)⟩
theorem ctT_mono {κ c : Nat} {pre : List Da → Prop} {post : List Da → Da → Prop} : Mono (ctT κ c pre post) := fun as rs P Q k ⟨ds, n, a, b, c, e, q⟩ => ⟨ds, n, a, b, c, e, fun d h => k _ _ (q d h)⟩
section
variable {rs : List Res} {Q : EQ} {as : List Rv} {ds : List Da} {pre : List Da → Prop} {post : List Da → Da → Prop} {κ c n j : Nat}
theorem kc_P (h : Shs rs as ds) (hp : pre ds) (q : ∀ d, post ds d → Q (.sh d) rs) : Kc (ctP pre post) as rs Q :=
  .pure h ⟨ds, rfl, rfl, hp, fun d hd => ⟨rfl, by rw [List.append_nil]; exact q d hd⟩⟩
theorem shs_sub {rs : List Res} : ∀ {as : List Rv} {ds : List Da}, Shs rs as ds → Sub1 rs j as (ds.map .sh)
  | _, _, .nil => .nil
  | _, _, .cons t => .sh (shs_sub t)
  | _, _, .frz e t => .frz e (shs_sub t)
theorem kc_T (hj : rs[j]? = some (.tray κ n)) (h : Shs rs as ds) (hn : n + c < 2 ^ 30) (hp : pre ds) (q : ∀ d, post ds d → Q (.sh d) (rs.set j (.tray κ (n + c)))) : Kc (ctT κ c pre post) (.rf j :: as) rs Q :=
  .one hj rfl (.rf (shs_sub h)) ⟨ds, n, rfl, rfl, hn, hp, fun d hd => ⟨_, [], rfl, rfl, by rw [List.append_nil]; exact q d hd⟩⟩
/-- a function of data -/
def ctF {α : Type} (pre : α → Prop) (arg : α → List Da) (res : α → Da) : Ct := fun as rs Q => ∃ a, as = (arg a).map .sh ∧ rs = [] ∧ pre a ∧ Q (.sh (res a)) []
theorem ctF_mono {α : Type} {pre : α → Prop} {arg : α → List Da} {res : α → Da} : Mono (ctF pre arg res) := fun as rs P Q k ⟨a, e1, e2, h, q⟩ => ⟨a, e1, e2, h, k _ _ q⟩
theorem kc_F {α : Type} {pre : α → Prop} {arg : α → List Da} {res : α → Da} (a : α) (h : Shs rs as (arg a)) (hp : pre a) (q : Q (.sh (res a)) rs) : Kc (ctF pre arg res) as rs Q :=
  .pure h ⟨a, rfl, rfl, hp, rfl, by rw [List.append_nil]; exact q⟩
/-- a draw -/
def preDraw (ds : List Da) : Prop := ∃ m : Int, ds = [.int m] ∧ 1 ≤ m ∧ m < 2 ^ 60
def postDraw (ds : List Da) (d : Da) : Prop := ∃ m r : Int, ds = [.int m] ∧ d = .int r ∧ 0 ≤ r ∧ r < m
abbrev ctDraw (κ : Nat) : Ct := ctT κ 1 preDraw postDraw
theorem kc_draw {m : Int} (hj : rs[j]? = some (.tray κ n)) (h1 : 1 ≤ m) (h2 : m < 2 ^ 60) (hn : n + 1 < 2 ^ 30) (q : ∀ r : Int, 0 ≤ r → r < m → Q (.sh (.int r)) (rs.set j (.tray κ (n + 1)))) : Kc (ctDraw κ) [.rf j, .sh (.int m)] rs Q :=
  kc_T hj (.cons .nil) hn ⟨m, rfl, h1, h2⟩ fun d ⟨m', r, e1, e2, h3, h4⟩ => by
    cases e1; subst e2
    exact q r h3 h4
end
end DL

set_option Elab.async false
set_option linter.all false
set_option maxRecDepth 100000
set_option maxHeartbeats 4000000
namespace DL
open PySem PySem.Spec L2
/-! ## numbers as texts -/
abbrev tl (x : Str) : List Nat := x.cps.toList
theorem ext_tl {a b : Str} (h : tl a = tl b) : a = b := Str.ext' (Array.toList_inj.mp h)
def nS (n : Nat) : Str := Str.ofString (toString ((n : Nat) : Int))
theorem tl_nS (n : Nat) : tl (nS n) = TL.numL n := TL.tl_num n
theorem nS_len (n : Nat) : (nS n).length = (TL.numL n).length := by
  rw [← tl_nS]; show (nS n).cps.size = _; rw [Array.length_toList]
theorem numL_len60 {n : Nat} (h : n < 10 ^ 60) : (TL.numL n).length ≤ 60 := TL.numL_len (by decide) h
theorem numL_pos (n : Nat) : 0 < (TL.numL n).length := List.length_pos_iff.mpr (TL.numL_ne n)
theorem numL_head : ∀ {n : Nat}, 0 < n → ∃ c r, TL.numL n = c :: r ∧ c ≠ 48 := by
  intro n
  induction n using Nat.strongRecOn with
  | _ n ih =>
    intro h0
    by_cases h : n < 10
    · exact ⟨48 + n, [], TL.numL_lt h, by omega⟩
    · obtain ⟨c, r, e, hc⟩ := ih (n / 10) (by omega) (by omega)
      exact ⟨c, r ++ [48 + n % 10], by rw [TL.numL_step (by omega), e]; rfl, hc⟩
theorem log2_big {n : Nat} (h : n < 10 ^ 60) : ((n : Nat) : Int).natAbs.log2 < 1920 := by
  rw [Int.natAbs_natCast]
  by_cases h0 : n = 0
  · subst h0; decide
  · exact (Nat.log2_lt h0).mpr (Nat.lt_of_lt_of_le h (Nat.le_trans (show 10 ^ 60 ≤ 2 ^ 200 by decide) (Nat.pow_le_pow_right (by decide) (by decide))))
theorem tl_app (x y : Str) : tl (x ++ y) = tl x ++ tl y := TL.tl_append x y
theorem len_app (x y : Str) : (x ++ y).length = x.length + y.length := by
  have h := congrArg List.length (tl_app x y)
  rw [List.length_append] at h
  rw [Array.length_toList, Array.length_toList, Array.length_toList] at h
  exact h
/-- what a standing is written as -/
def stT (i j : Nat) (l : Str) : Str := nS i ++ "." ++ nS j ++ " " ++ l
theorem stT_part (i j : Nat) (l : Str) : Txt.partition (stT i j l) " " = (nS i ++ "." ++ nS j, (" " : Str), l) := by
  unfold stT
  refine TL.partition_app (s := 32) (S := []) rfl ?_
  show ¬ 32 ∈ tl _
  rw [tl_app, tl_app, tl_nS, tl_nS]
  intro h
  rcases List.mem_append.mp h with h | h
  · rcases List.mem_append.mp h with h | h
    · exact TL.numL_free (.inl (by decide)) h
    · exact absurd h (by decide)
  · exact TL.numL_free (.inl (by decide)) h
theorem stT_split (i j : Nat) : Txt.split (nS i ++ "." ++ nS j) "." = [nS i, nS j] := by
  have e : Txt.join "." [nS i, nS j] = nS i ++ "." ++ nS j := by
    rw [TL.join_eq]
    refine ext_tl ?_
    show TL.tl _ = _
    rw [TL.tl_join, tl_app, tl_app]
    simp [TL.joinL]
  rw [← e]
  refine TL.split_join (s := 46) (S := []) rfl (by decide +kernel) (by simp) fun p hp => ?_
  have hp' : p = nS i ∨ p = nS j := by simpa using hp
  rcases hp' with e | e <;> (rw [e]; show 46 ∉ tl _; rw [tl_nS]; exact TL.numL_free (.inl (by decide)))
theorem nS_int {n : Nat} (h : n < 10 ^ 60) : PySem.intText? (nS n) = some (n : Int) := TL.int_num (Nat.le_trans (numL_len60 h) (by decide))
theorem nS_zero : nS 0 = "0" := by decide
theorem stT_len {i j : Nat} {l : Str} (hi : i < 10 ^ 60) (hj : j < 10 ^ 60) : (stT i j l).length ≤ 122 + l.length := by
  unfold stT
  rw [len_app, len_app, len_app, len_app, nS_len, nS_len]
  have h1 := numL_len60 hi
  have h2 := numL_len60 hj
  have e1 : (("." : Str)).length = 1 := rfl
  have e2 : ((" " : Str)).length = 1 := rfl
  omega
/-! ## kinds -/
def isiT (a b : String) : Bool := a == b || (a == "bool" && b == "int")
theorem isiT_ok : ∀ a ∈ ["NoneType", "bool", "int", "str", "tuple", "list", "dict"], ∀ b ∈ ["bool", "int", "str", "tuple", "list"], kitB a b = some (isiT a b) := by decide +kernel
section
variable {X : Cx} {rs : List Res} {Q : EQ} {r1 : Rv}
theorem cv_is {d : Da} {n : String} (w : Vw rs r1 d) (q : Q (.sh (.bl (isiT (tyn d) n))) rs) (hd : tyn d ∈ ["NoneType", "bool", "int", "str", "tuple", "list", "dict"] := by decide) (hn : n ∈ ["bool", "int", "str", "tuple", "list"] := by decide) : CV X (.builtin "isinstance") [r1, .sh (.ty n)] rs Q :=
  cv_isi w (fun z => by rw [z] at hd; revert hd; decide) (isiT_ok _ hd _ hn) q
end
end DL

set_option Elab.async false
set_option linter.all false
set_option maxRecDepth 100000
set_option maxHeartbeats 4000000
namespace DL
open PySem PySem.Spec L2
/-- where a name stands in a list -/
inductive NameAt : List Str → Nat → Str → Prop
  | z {x : Str} {N : List Str} : NameAt (x :: N) 0 x
  | s {x y : Str} {N : List Str} {i : Nat} : NameAt N i x → NameAt (y :: N) (i + 1) x
theorem NameAt.get : ∀ {N : List Str} {i : Nat} {x : Str}, NameAt N i x → N[i]? = some x
  | _, _, _, .z => rfl
  | _, _, _, .s h => h.get
section
variable {X : Cx} {sl : Sl} {rs : List Res} {Q : EQ} {R : Out} {e a b : Expr} {es : List Expr} {p pos : Pos} {x : Str} {i : Nat} {N ps : List Str} {sc : Scope} {mg : Str → Option Value}
theorem ew_nm {r : Rv} (S : FnScope N ps sc) (h : NameAt N i x) (hs : sl[i]? = some (some r)) (q : Q r rs) (e1 : X.N = N := by rfl)
    (hv : Vis X.env.scope x := by first | exact Or.inl rfl | exact Or.inr (Or.inl rfl) | exact Or.inr (Or.inr rfl)) (hd : (x == ("__debug__" : Str)) = false := by decide) (hcd : (x == ("__classdict__" : Str)) = false := by decide) : EW X sl (.Name x pos) rs Q :=
  ew_name i hs q (by rw [e1]; exact h.get) hv hd hcd
theorem s_st {pos' : Pos} (S : FnScope N ps sc) (h : NameAt N i x) (q : EW X sl e rs fun r rs' => R.nx (sl.set i (some r)) rs') (e1 : X.N = N := by rfl) (hx : Loc X.env.scope x := by first | exact Or.inl rfl | exact Or.inr rfl)
    (hs : swapsWith e (some (.Name x pos')) pos.line X.env = pure false := by rfl) (hf : X.fn x = true ∨ X.env.scope.names.lookup x = some .local := by first | exact .inl rfl | exact .inr rfl) : S1 X sl (.Assign [.Name x pos'] e pos) rs R :=
  s_set i q (by rw [e1]; exact S.nd) (by rw [e1]; exact h.get) hx hs hf
theorem gw_nm {r : Rv} {Q : SQ} (S : FnScope N ps sc) (h : NameAt N i x) (q : Q (sl.set i (some r)) rs) (e1 : X.N = N := by rfl) (hx : Loc X.env.scope x := by first | exact Or.inl rfl | exact Or.inr rfl)
    (hf : X.fn x = true ∨ X.env.scope.names.lookup x = some .local := by first | exact .inl rfl | exact .inr rfl) : GW X (.Name x pos) r sl rs Q := gw_name i q (by rw [e1]; exact S.nd) (by rw [e1]; exact h.get) hx hf
theorem s_ag {pos' : Pos} {op : Operator} {r0 : Rv} (S : FnScope N ps sc) (h : NameAt N i x) (h0 : sl[i]? = some (some r0)) (q : EW X sl e rs fun r rs' => BV X (inplaceOp op) r0 r rs' fun r' rs2 => R.nx (sl.set i (some r')) rs2) (e1 : X.N = N := by rfl) (hx : Loc X.env.scope x := by first | exact Or.inl rfl | exact Or.inr rfl)
    (hf : X.fn x = true ∨ X.env.scope.names.lookup x = some .local := by first | exact .inl rfl | exact .inr rfl) : S1 X sl (.AugAssign (.Name x pos') op e pos) rs R := s_aug i h0 q (by rw [e1]; exact S.nd) (by rw [e1]; exact h.get) hx hf
theorem lcg_nm (S : FnScope N ps sc) (h : NameAt N i x) (e1 : X.N = N := by rfl) (hx : Loc X.env.scope x := by first | exact Or.inl rfl | exact Or.inr rfl) (hf : X.fn x = true ∨ X.env.scope.names.lookup x = some .local := by first | exact .inl rfl | exact .inr rfl) : LcG X (.Name x pos) [i] (fun d => some [d]) :=
  lcg_name i (by rw [e1]; exact S.nd) (by rw [e1]; exact h.get) hx hf
theorem ew_gl {d : Da} (h : GlD X.K mg x d) (q : Q (.sh d) rs) (e1 : X.mg = mg := by rfl) (hg : Gl X x := by rfl) (hd : (x == ("__debug__" : Str)) = false := by decide) : EW X sl (.Name x pos) rs Q := ew_glob (by rw [e1]; exact h) q hg hd
structure GlC (K : PySem.W.Frag) (mg : Str → Option Value) (x : Str) (d : Da) : Prop where
  g : GlD K mg x d
theorem ew_glk {K : PySem.W.Frag} {d : Da} (h : GlD K mg x d) (q : Q (.sh d) rs) (e1 : X.mg = mg := by rfl) (e2 : X.K = K := by rfl) (hg : Gl X x := by rfl) (hd : (x == ("__debug__" : Str)) = false := by decide) : EW X sl (.Name x pos) rs Q := ew_glob (by rw [e1, e2]; exact h) q hg hd
theorem ew_cl {P : Program} {w : World} {K : PySem.W.Frag} {base : Heap} {c : Ct} {k : Nat} (F : FnC P w K mg base x ps k c) (hr : Room k X.A) (h : AW X sl (e :: es) rs fun as rs1 => Kc c as rs1 Q) (e1 : X.prog = P := by rfl) (e2 : X.w = w := by rfl) (e3 : X.K = K := by rfl) (e4 : X.mg = mg := by rfl) (e5 : X.base = base := by rfl) (hg : Gl X x := by rfl)
    (hdb : (x == ("__debug__" : Str)) = false := by decide) (he : starEach (e :: es) X.env = (false, eval e X.env) :: starEach es X.env := by rfl) (hpl : (backTo pos (starEach es X.env)).any (·.1) = false := by rfl) : EW X sl (.Call (.Name x p) (e :: es) [] pos) rs Q :=
  ew_call (by rw [e1, e2, e3, e4, e5]; exact F) hr h hg hdb he hpl
/-- a built-in by its name, a built-in type by its name -/
def bNames : List (Str × String) := [("len", "len"), ("max", "max"), ("min", "min"), ("abs", "abs"), ("all", "all"), ("isinstance", "isinstance"), ("sorted", "sorted"), ("divmod", "divmod"), ("sum", "sum"), ("any", "any")]
def tNames : List (Str × String) := [("str", "str"), ("int", "int"), ("list", "list"), ("dict", "dict"), ("tuple", "tuple"), ("bool", "bool"), ("set", "set")]
theorem bNames_ok : ∀ q ∈ bNames, bootBuiltins q.1 = some (.builtin q.2) := by decide +kernel
theorem tNames_ok : ∀ q ∈ tNames, bootBuiltins q.1 = some (.type q.2) := by decide +kernel
theorem eb_b (n : String) (hm : mg x = none) (hb : (x, n) ∈ bNames) (h : AW X sl (e :: es) rs fun as rs1 => CV X (.builtin n) as rs1 Q) (e1 : X.mg = mg := by rfl) (hg : Gl X x := by rfl) (hn : x ≠ "__name__" := by decide) (hdb : (x == ("__debug__" : Str)) = false := by decide) (he : st1 X e es := by rfl) (hpl : (backTo pos (starEach es X.env)).any (·.1) = false := by rfl) : EW X sl (.Call (.Name x p) (e :: es) [] pos) rs Q :=
  ew_callB (by rw [e1]; exact hm) (bNames_ok _ hb) h hg hn hdb he hpl
theorem eb_t (n : String) (hm : mg x = none) (hb : (x, n) ∈ tNames) (h : AW X sl (e :: es) rs fun as rs1 => CV X (.type n) as rs1 Q) (e1 : X.mg = mg := by rfl) (hg : Gl X x := by rfl) (hn : x ≠ "__name__" := by decide) (hdb : (x == ("__debug__" : Str)) = false := by decide) (he : st1 X e es := by rfl) (hpl : (backTo pos (starEach es X.env)).any (·.1) = false := by rfl) : EW X sl (.Call (.Name x p) (e :: es) [] pos) rs Q :=
  ew_callT (by rw [e1]; exact hm) (tNames_ok _ hb) h hg hn hdb he hpl
theorem en_t (n : String) (hm : mg x = none) (hb : (x, n) ∈ tNames) (q : Q (.sh (.ty n)) rs) (e1 : X.mg = mg := by rfl) (hg : Gl X x := by rfl) (hn : x ≠ "__name__" := by decide) (hd : (x == ("__debug__" : Str)) = false := by decide) : EW X sl (.Name x pos) rs Q :=
  ew_bltn (by rw [e1]; exact hm) (tNames_ok _ hb) q hg hn hd
end
end DL
namespace DL
open PySem PySem.Spec L2
/-! ## data of a depth -/
mutual
def alkD : Nat → Da → Bool
  | _, .non => true | _, .bl _ => true | _, .int _ => true | _, .str _ => true
  | n + 1, .tup ds => decide (ds.length ≤ 100000) && alkDs n ds | n + 1, .lst ds => decide (ds.length ≤ 100000) && alkDs n ds
  | _, _ => false
def alkDs : Nat → List Da → Bool
  | _, [] => true | n, d :: ds => alkD n d && alkDs n ds
end
theorem alkDs_mem : ∀ {n : Nat} {ds : List Da}, alkDs n ds = true → ∀ d ∈ ds, alkD n d = true
  | n, d :: ds, h, x, hx => by
    simp only [alkDs, Bool.and_eq_true] at h
    rcases List.mem_cons.mp hx with e | hx
    · rw [e]; exact h.1
    · exact alkDs_mem h.2 x hx
theorem alkDs_of {n : Nat} : ∀ {ds : List Da}, (∀ d ∈ ds, alkD n d = true) → alkDs n ds = true
  | [], _ => by simp [alkDs]
  | d :: ds, h => by rw [alkDs, h d List.mem_cons_self, alkDs_of fun x hx => h x (List.mem_cons_of_mem _ hx)]; rfl
theorem alk_kind {n : Nat} {d : Da} (h : alkD n d = true) : tyn d ∈ ["NoneType", "bool", "int", "str", "tuple", "list", "dict"] := by
  cases d <;> first | (show _ ∈ _; simp [tyn]; done) | (cases n <;> simp [alkD] at h)
theorem alk_seq {n : Nat} {d : Da} (h : alkD n d = true) (h0 : isNon (.sh d) = false) (h1 : isiT (tyn d) "bool" = false) (h2 : isiT (tyn d) "int" = false) (h3 : isiT (tyn d) "str" = false) :
    ∃ ds, (∀ rs, VwSeq rs (.sh d) ds) ∧ (∀ x ∈ ds, alkD (n - 1) x = true) ∧ n ≠ 0 ∧ ds.length ≤ 100000 := by
  cases d with
  | non => exact absurd h0 (by decide)
  | bl b => exact absurd h1 (by simp [isiT, tyn])
  | int b => exact absurd h2 (by simp [isiT, tyn])
  | str b => exact absurd h3 (by simp [isiT, tyn])
  | tup ds =>
    cases n with
    | zero => simp [alkD] at h
    | succ n =>
      simp only [alkD, Bool.and_eq_true, decide_eq_true_eq] at h
      exact ⟨ds, fun rs => .tup (.sh _), alkDs_mem h.2, Nat.succ_ne_zero n, h.1⟩
  | lst ds =>
    cases n with
    | zero => simp [alkD] at h
    | succ n =>
      simp only [alkD, Bool.and_eq_true, decide_eq_true_eq] at h
      exact ⟨ds, fun rs => .lst (.sh _), alkDs_mem h.2, Nat.succ_ne_zero n, h.1⟩
  | _ => cases n <;> simp [alkD] at h
end DL

set_option Elab.async false
set_option linter.all false
set_option maxRecDepth 100000
set_option maxHeartbeats 4000000
namespace DL
open PySem PySem.Spec L2
open PyProof.Rows (envOfC)
/-- a def called by keywords alone -/
structure KwF (P : Program) (w : World) (K : PySem.W.Frag) (mg : Str → Option Value) (base : Heap) (x : Str) (ps ks : List Str) (ix : List Nat) (k : Nat) (c : Ct) : Prop where
  ex : ∃ f fd, mg x = some (.ref f) ∧ PySem.W.keepIn K (.ref f) = true ∧ (∀ (s : Shared) (ws : List Value), ws.length = ks.length → BindsTo s fd ⟨[], ks.zip ws⟩ (ps.zip (ix.map fun i => ws.getD i .none))) ∧ FnOk P w K mg base CX0 k f fd ps (cSp K c)
  mono : Mono c
  ixl : ix.length = ps.length
section
variable {X : Cx} {sl : Sl} {rs : List Res} {Q : EQ}
theorem run_fn0 {pins : List (Addr × Obj)} {σ : L2.St} {H : Hp} {s : Shared} {Q : VK} {ws : List Value} {zs : List V} {f : Addr} {fd : FuncData} {ps ks : List Str} {ix : List Nat} {k : Nat} {sp : Sp} (F : FnOk X.prog X.w X.K X.mg X.base CX0 k f fd ps sp) (hr : Room k X.A)
    (hb : BindsTo s fd ⟨[], ks.zip ws⟩ (ps.zip (ix.map fun i => ws.getD i .none))) (I : Inv X pins σ H s) (rz : Vals (ix.map fun i => zs.getD i .non) (ix.map fun i => ws.getD i .none)) (h : sp (ix.map fun i => zs.getD i .non) H Q E0) : wpAny (model X.prog X.w) X.A (call (.ref f) [] (ks.zip ws)) (EP X pins σ Q) X.xe s := by
  refine wpAny_call (codeAny_mono (F.run X.A X.stack s H ⟨[], ks.zip ws⟩ (ix.map fun i => ws.getD i .none) (ix.map fun i => zs.getD i .non) Q E0 hr I.env0 hb rz h) fun r s' hq => ?_)
  cases r with
  | error e => exact (hq : False).elim
  | ok fl =>
    cases fl with
    | ret u => exact I.after hq
    | next => exact False.elim hq
    | brk => exact False.elim hq
    | cont => exact False.elim hq
theorem vals_map {zs : List V} {ws : List Value} (h : Vals zs ws) : ∀ ix : List Nat, Vals (ix.map fun i => zs.getD i .non) (ix.map fun i => ws.getD i .none)
  | [] => .nil
  | i :: ix => by
    refine .cons ?_ (vals_map h ix)
    show RelV (zs.getD i .non) (ws.getD i .none)
    by_cases hi : i < zs.length
    · obtain ⟨u, h1, h2⟩ := h.get (List.getElem?_eq_getElem hi)
      rw [List.getD_eq_getElem?_getD, List.getD_eq_getElem?_getD, h1, List.getElem?_eq_getElem hi]; exact h2
    · have := h.length
      rw [List.getD_eq_getElem?_getD, List.getD_eq_getElem?_getD, List.getElem?_eq_none (by omega), List.getElem?_eq_none (by omega)]; rfl
theorem ew_ck {P : Program} {w : World} {K : PySem.W.Frag} {mg : Str → Option Value} {base : Heap} {x : Str} {p pos : Pos} {c : Ct} {k : Nat} {ps ks : List Str} {ix : List Nat} {kws : List Keyword} (F : KwF P w K mg base x ps ks ix k c) (hr : Room k X.A) (h : KW X sl kws rs fun as rs1 => as.length = ks.length ∧ Kc c (ix.map fun i => as.getD i (.sh .non)) rs1 Q)
    (e1 : X.prog = P := by rfl) (e2 : X.w = w := by rfl) (e3 : X.K = K := by rfl) (e4 : X.mg = mg := by rfl) (e5 : X.base = base := by rfl) (hg : Gl X x := by rfl)
    (hall : (backToKw pos (keywordEach kws X.env)).all (·.1.isSome) = true := by rfl) (hks : (backToKw pos (keywordEach kws X.env)).filterMap (·.1) = ks := by rfl)
    (hdb : (x == ("__debug__" : Str)) = false := by decide) (hpl : ((backTo pos (starEach [] X.env)).any (·.1) || (backToKw pos (keywordEach kws X.env)).any (·.1.isNone)) = false := by rfl) : EW X sl (.Call (.Name x p) [] kws pos) rs Q := by
  subst e1 e2 e3 e4 e5
  obtain ⟨f, fd, hm, hk, hb, G⟩ := F.ex
  refine ⟨fun T σ H R S pins s I => ?_⟩
  refine wpAny_Call_Name_kw (ld_glob I hg hm ?_ hdb)
  refine PySem.W.callWith_KW0 (h₀ := X.base) I.ok.mod.kin hk hall (thn (h.go T σ H R S pos pins s I) fun ws s2 ⟨zs, H2, I2, rz, T1, rs1, as, l1, R1, p1, hl, q1⟩ => ⟨I2.kIn, ?_⟩) hpl
  rw [hks]
  have hwl : ws.length = ks.length := by rw [← rz.length, p1.len, hl]
  refine run_fn0 G hr (hb s2 ws hwl) I2 (vals_map rz ix) ?_
  have q := Kc.sp (E := E0) q1 R1 (rpvs_map p1 ix) F.mono
  obtain ⟨T', rs', as', a, b, d⟩ := q
  exact ⟨T', rs', as', a, b, F.mono _ _ _ _ (fun r rs'' q v T'' H'' l R'' p'' => (q v T'' H'' l R'' p'').le l1) d⟩
end
section
variable {P : Program} {w : World} {K : PySem.W.Frag} {mg : Str → Option Value} {base : Heap}
theorem kwF_mk {x qual : Str} {st : Stmt} {f : Addr} {fd : FuncData} {ps ks : List Str} {ix : List Nat} {k : Nat} {c : Ct} (F : Fun K x qual st f fd) (hm : mg x = some (.ref f)) (G : FnOk P w K mg base CX0 k f fd ps (cSp K c)) (mono : Mono c)
    (h : ∀ (kV doc pm : Value) (an : Option Addr) (cdv ct : Value) (ws : List Value), ws.length = ks.length → bindArgs (PySem.W.fnOf x qual (defArgs st) (defBody st) (defScope st) .none kV doc pm an cdv ct) ⟨[], ks.zip ws⟩ = pure (ps.zip (ix.map fun i => ws.getD i .none))) (hix : ix.length = ps.length := by rfl) : KwF P w K mg base x ps ks ix k c := by
  refine ⟨⟨f, fd, hm, F.kp, ?_, G⟩, mono, hix⟩
  obtain ⟨oc, od, kV, doc, pm, an, cdv, ct, osl, rfl, lk, hcd⟩ := F.ex
  exact fun s ws hl => .of_eq (h kV doc pm an cdv ct ws hl)
theorem fnC_mk {x : Str} {qual : Str} {st : Stmt} {f : Addr} {fd : FuncData} {ps : List Str} {k : Nat} {c : Ct} (F : Fun K x qual st f fd) (hm : mg x = some (.ref f)) (hb : Binds K fd ps []) (G : FnOk P w K mg base CX0 k f fd ps (cSp K c)) (mono : Mono c) : FnC P w K mg base x ps k c := ⟨⟨f, fd, hm, F.kp, hb, G⟩, mono⟩
end
theorem glS {K : PySem.W.Frag} {mg : Str → Option Value} {x y : Str} {t : Tok} (h : mg x = some (.str y t)) : GlD K mg x (.str y) := ⟨_, .str y, h, ⟨t, rfl⟩, fun _ => .str _⟩
theorem glI {K : PySem.W.Frag} {mg : Str → Option Value} {x : Str} {y : Int} {t : Tok} (h : mg x = some (.int y t)) : GlD K mg x (.int y) := ⟨_, .int y, h, ⟨t, rfl⟩, fun _ => .int _⟩
/-- a law: any ints in, True out -/
def ctLaw : Ct := fun as rs Q => ∃ ns : List Int, as = [.sh (.lstK (ns.map Da.int))] ∧ rs = [] ∧ ns.length ≤ 63 ∧ Q (.sh (.bl true)) []
theorem ctLaw_in {K : PySem.W.Frag} {H : Hp} {a : Addr} {ns : List Int} (hl : ns.length ≤ 63) (hS : SqL K H a (ns.map V.int)) (E : XK) : cSp K ctLaw [.ref a] H (fun v _ => v = .bl true) E :=
  ⟨⟨H, fun _ => none, fun _ => none, 0, fun _ => 0⟩, [], [.sh (.lstK (ns.map Da.int))], ⟨rfl, .refl _, (fun _ _ e => (nomatch e)), (fun _ _ e => (nomatch e)), (fun _ _ _ => rfl), (fun _ _ e => (nomatch e)), (fun _ _ e => e)⟩, .cons (.lstK hS (Rps.ofInts ns)) .nil, ns, rfl, rfl, hl, fun v T' H' _ _ p => blOf p⟩
theorem pickI {ds : List Da} {r : Int} (h0 : 0 ≤ r) (h1 : r < ds.length) : ∃ d, atI ds r = some d ∧ d ∈ ds := by
  have hl : r.toNat < ds.length := by omega
  refine ⟨ds[r.toNat], ?_, List.getElem_mem hl⟩
  have e := atI_nat (List.getElem?_eq_getElem hl)
  rw [Int.toNat_of_nonneg h0] at e
  exact e
end DL

set_option Elab.async false
set_option linter.all false
set_option maxRecDepth 100000
set_option maxHeartbeats 4000000
namespace DL
open PySem PySem.Spec L2
open PyProof.Rows hiding St

/-! ## a thing of ours comes to stay -/
theorem RepH.freezeO {K : PySem.W.Frag} {T : Tw} {H : Hp} {rs : List Res} {k : Nat} {o : HO} {d : Da} (R : RepH K T rs H) (hk : k < rs.length) (h1 : T.own (T.ad k) = some k) (h2 : H (T.ad k) = some o) (h3 : Rp K (upd T.H0 (T.ad k) o) (.ref (T.ad k)) d) :
    ∃ T', T.le T' ∧ RepH K T' (rs.set k (.frz d)) H := by
  obtain ⟨d1, d2, d3⟩ := R.dj _ _ h1
  have k0 : Kp T.H0 (upd T.H0 (T.ad k) o) := .new d1
  have le0 : T.le (T.freeze (T.ad k) o) := ⟨k0, rfl, Nat.le_refl _, fun _ _ => rfl⟩
  refine ⟨T.freeze (T.ad k) o, le0, by rw [List.length_set]; exact R.n, fun a u e => ?_, R.fr, fun a j e => ?_, fun a u e => ?_, fun j q e => ?_, fun a xs e => ?_⟩
  rotate_left 4
  · show upd T.H0 (T.ad k) _ a = _
    by_cases ha : a = T.ad k
    · subst ha
      rw [upd_same, ← h2]; exact e
    · rw [upd_ne ha]; exact R.tu a xs e
  · by_cases ha : a = T.ad k
    · subst ha
      rw [show (T.freeze (T.ad k) o).H0 (T.ad k) = some o from upd_same] at e
      cases e; exact h2
    · rw [show (T.freeze (T.ad k) o).H0 a = T.H0 a from upd_ne ha] at e
      exact R.h0 a u e
  · by_cases ha : a = T.ad k
    · rw [show (T.freeze (T.ad k) o).own a = none from if_pos ha] at e; cases e
    · rw [show (T.freeze (T.ad k) o).own a = T.own a from if_neg ha] at e
      obtain ⟨q1, q2, q3⟩ := R.dj a j e
      exact ⟨(upd_ne ha).trans q1, q2, q3⟩
  · by_cases ha : a = T.ad k
    · subst ha; exact d2
    · rw [show (T.freeze (T.ad k) o).H0 a = T.H0 a from upd_ne ha] at e
      exact R.df a u e
  · by_cases hj : k = j
    · subst hj
      rw [List.getElem?_set_self hk] at e
      cases e
      exact h3
    · rw [List.getElem?_set_ne hj] at e
      refine (R.rs j q e).keep (T' := T.freeze (T.ad k) o) le0 (R.lt e) fun a ha => ⟨?_, fun u hu => hu⟩
      show (if a = T.ad k then none else T.own a) = some j
      rw [if_neg (fun z => hj (by rw [z] at ha; rw [ha] at h1; exact (Option.some.inj h1).symm))]; exact ha
theorem gh_frzT {K : PySem.W.Frag} {rs : List Res} {k : Nat} {ds : List (List Key × Da)} (h : rs[k]? = some (.dT ds)) : Gh K rs (rs.set k (.frz (.dT ds))) := fun T H R => by
  obtain ⟨h1, vs, h2, h3⟩ := R.rs k _ h
  obtain ⟨d1, _, _⟩ := R.dj _ _ h1
  exact R.freezeO (List.getElem?_eq_some_iff.mp h).1 h1 h2 (.dT upd_same (h3.mono (.new d1)))
theorem gh_frzI {K : PySem.W.Frag} {rs : List Res} {k : Nat} {C : Addr} {ds : List (Str × Da)} (h : rs[k]? = some (.ins C ds)) : Gh K rs (rs.set k (.frz (.ins C ds))) := fun T H R => by
  obtain ⟨h1, dx, fs, h2, h3, h4, h5⟩ := R.rs k _ h
  obtain ⟨d1, _, _⟩ := R.dj _ _ h1
  exact R.freezeO (List.getElem?_eq_some_iff.mp h).1 h1 h4 (.ins upd_same (h5.mono (.new d1)))
theorem trim_dT {K : PySem.W.Frag} {n0 : Nat} {Q : EQ} {k : Nat} {ds : List (List Key × Da)} {rs : List Res} (m : Nat) (h : rs[k]? = some (.dT ds)) (q : Q (.sh (.dT ds)) ((rs.set k (.frz (.dT ds))).take m)) (h1 : n0 ≤ m := by simp) (h2 : m ≤ rs.length := by simp) (h3 : ((rs.set k (.frz (.dT ds))).take m).all Res.cl = true := by rfl) : Trim K n0 Q (.rf k) rs :=
  ⟨_, gh_frzT h, m, .sh (.dT ds), h1, by rw [List.length_set]; exact h2, h3, .inr ⟨k, _, rfl, List.getElem?_set_self (List.getElem?_eq_some_iff.mp h).1, rfl⟩, trivial, q⟩
/-- the value in hand is what has come to stay -/
theorem ew_frzd {X : Cx} {sl : Sl} {rs : List Res} {Q : EQ} {e : Expr} (h : EW X sl e rs fun r rs1 => ∃ k d, r = .rf k ∧ rs1[k]? = some (.frz d) ∧ Q (.sh d) rs1) : EW X sl e rs Q := ⟨fun T σ H a b => (h T σ H a b).mono fun v H' ⟨T', rs', r, l, R', p, k, d, e1, e2, q⟩ => by
  subst e1
  refine ⟨T', rs', .sh d, l, R', ?_, q⟩
  have q := R'.rs _ _ e2
  show Rp X.K T'.H0 v d
  rw [p.2]; exact q⟩
theorem vw_sh {K : PySem.W.Frag} {T : Tw} {H : Hp} {rs : List Res} {k : Nat} {d : Da} {v : V} (R : RepH K T rs H) (h : rs[k]? = some (.frz d)) (p : RpV K T v (.rf k)) : RpV K T v (.sh d) := by
  show Rp K T.H0 v d
  rw [p.2]; exact R.rs _ _ h

/-! ## keys of texts and numbers -/
def keyD : Da → Option Key
  | .int i => some (.inl i) | .str x => some (.inr x) | _ => none
def keyDs : List Da → Option (List Key)
  | [] => some []
  | d :: ds => match keyD d, keyDs ds with
    | some k, some ks => some (k :: ks)
    | _, _ => none
theorem keyD_v {K : PySem.W.Frag} {H : Hp} {v : V} {d : Da} {k : Key} (h : Rp K H v d) (e : keyD d = some k) : v = kV k := by
  cases h <;> simp [keyD] at e <;> subst e <;> rfl
theorem keyDs_v {K : PySem.W.Frag} {H : Hp} : ∀ {vs : List V} {ds : List Da} {ks : List Key}, Rps K H vs ds → keyDs ds = some ks → vs = ks.map kV
  | _, _, _, .nil, e => by simp [keyDs] at e; subst e; rfl
  | _, d :: ds, ks, .cons r t, e => by
    unfold keyDs at e
    cases h1 : keyD d with
    | none => rw [h1] at e; simp at e
    | some k =>
      cases h2 : keyDs ds with
      | none => rw [h1, h2] at e; simp at e
      | some ks' =>
        rw [h1, h2] at e
        simp at e
        subst e
        rw [List.map_cons, keyD_v r h1, keyDs_v t h2]
/-! ## dicts with tuple keys -/
section
variable {κ α : Type} [DecidableEq κ]
def valD (kvs : List (κ × α)) (k : κ) : Option α := (kvs.find? fun kv => decide (kv.1 = k)).map (·.2)
def putD (kvs : List (κ × α)) (k : κ) (v : α) : List (κ × α) :=
  if (kvs.any fun kv => decide (kv.1 = k)) = true then kvs.map (fun kv => if kv.1 = k then (kv.1, v) else kv) else kvs ++ [(k, v)]
theorem valD_nil {k : κ} : valD ([] : List (κ × α)) k = none := rfl
theorem valD_pos {p : κ × α} {r : List (κ × α)} {k : κ} (e : p.1 = k) : valD (p :: r) k = some p.2 := by simp [valD, List.find?_cons, e]
theorem valD_neg {p : κ × α} {r : List (κ × α)} {k : κ} (e : ¬ p.1 = k) : valD (p :: r) k = valD r k := by simp [valD, List.find?_cons, e]
theorem valD_any (k : κ) : ∀ kvs : List (κ × α), (kvs.any fun kv => decide (kv.1 = k)) = (valD kvs k).isSome
  | [] => rfl
  | p :: r => by
    by_cases e : p.1 = k
    · rw [valD_pos e, List.any_cons, decide_eq_true e]; rfl
    · rw [valD_neg e, List.any_cons, decide_eq_false e, Bool.false_or, valD_any k r]
theorem putD_new {kvs : List (κ × α)} {k : κ} {v : α} (h : valD kvs k = none) : putD kvs k v = kvs ++ [(k, v)] := by
  unfold putD
  rw [valD_any, h, if_neg (by simp)]
theorem valD_snoc {k j : κ} {y : α} : ∀ {kvs : List (κ × α)}, valD kvs k = none → valD (kvs ++ [(k, y)]) j = if j = k then some y else valD kvs j
  | [], _ => by
    by_cases e : j = k
    · subst e; rw [if_pos rfl]; exact valD_pos rfl
    · rw [if_neg e]; exact valD_neg (fun z => e z.symm)
  | p :: r, h => by
    by_cases e : p.1 = k
    · rw [valD_pos e] at h; cases h
    · rw [valD_neg e] at h
      by_cases ej : p.1 = j
      · have : ¬ j = k := fun z => e (ej.trans z)
        rw [List.cons_append, valD_pos ej, valD_pos ej, if_neg this]
      · rw [List.cons_append, valD_neg ej, valD_neg ej, valD_snoc h]
theorem putD_len {kvs : List (κ × α)} {k : κ} {v : α} : (putD kvs k v).length ≤ kvs.length + 1 := by
  unfold putD
  split
  · rw [List.length_map]; omega
  · rw [List.length_append]; simp
end
def RpO (K : PySem.W.Frag) (H : Hp) : Option V → Option Da → Prop
  | none, none => True
  | some v, some d => Rp K H v d
  | _, _ => False
theorem RpT.val {K : PySem.W.Frag} {H : Hp} (k : List Key) : ∀ {kvs : List (List Key × V)} {ds : List (List Key × Da)}, RpT K H kvs ds → RpO K H (valV kvs k) (valD ds k)
  | _, _, .nil => trivial
  | _, _, .cons (k := k') r t => by
    by_cases e : k' = k
    · rw [valV_pos e, valD_pos e]; exact r
    · rw [valV_neg e, valD_neg e]; exact RpT.val k t
theorem RpO.isSome {K : PySem.W.Frag} {H : Hp} : ∀ {a : Option V} {b : Option Da}, RpO K H a b → a.isSome = b.isSome
  | none, none, _ => rfl
  | some _, some _, _ => rfl
  | none, some _, h => h.elim
  | some _, none, h => h.elim
theorem RpO.some_of {K : PySem.W.Frag} {H : Hp} {d : Da} : ∀ {a : Option V} {b : Option Da}, RpO K H a b → b = some d → ∃ v, a = some v ∧ Rp K H v d
  | some v, some _, h, e => by cases e; exact ⟨v, rfl, h⟩
  | none, some _, h, _ => h.elim
theorem RpO.getD {K : PySem.W.Frag} {H : Hp} {x : V} {y : Da} (r : Rp K H x y) : ∀ {a : Option V} {b : Option Da}, RpO K H a b → Rp K H (a.getD x) (b.getD y)
  | none, none, _ => r
  | some _, some _, h => h
  | none, some _, h => h.elim
  | some _, none, h => h.elim
theorem RpT.len {K : PySem.W.Frag} {H : Hp} : ∀ {kvs : List (List Key × V)} {ds : List (List Key × Da)}, RpT K H kvs ds → kvs.length = ds.length
  | _, _, .nil => rfl
  | _, _, .cons _ t => by rw [List.length_cons, List.length_cons, RpT.len t]
theorem RpT.keys {K : PySem.W.Frag} {H : Hp} : ∀ {kvs : List (List Key × V)} {ds : List (List Key × Da)}, RpT K H kvs ds → kvs.map (·.1) = ds.map (·.1)
  | _, _, .nil => rfl
  | _, _, .cons _ t => by rw [List.map_cons, List.map_cons, RpT.keys t]
theorem RpT.app {K : PySem.W.Frag} {H : Hp} : ∀ {kvs kvs' : List (List Key × V)} {ds ds' : List (List Key × Da)}, RpT K H kvs ds → RpT K H kvs' ds' → RpT K H (kvs ++ kvs') (ds ++ ds')
  | _, _, _, _, .nil, s => s
  | _, _, _, _, .cons r t, s => .cons r (RpT.app t s)
theorem RpT.repl {K : PySem.W.Frag} {H : Hp} {k : List Key} {v : V} {d : Da} (r : Rp K H v d) : ∀ {kvs : List (List Key × V)} {ds : List (List Key × Da)}, RpT K H kvs ds → RpT K H (kvs.map fun kv => if kv.1 = k then (kv.1, v) else kv) (ds.map fun kv => if kv.1 = k then (kv.1, d) else kv)
  | _, _, .nil => .nil
  | _, _, .cons (k := k') a t => by
    rw [List.map_cons, List.map_cons]
    by_cases e : k' = k
    · rw [if_pos e, if_pos e]; exact .cons r (RpT.repl r t)
    · rw [if_neg e, if_neg e]; exact .cons a (RpT.repl r t)
theorem RpT.put {K : PySem.W.Frag} {H : Hp} {k : List Key} {v : V} {d : Da} (r : Rp K H v d) {kvs : List (List Key × V)} {ds : List (List Key × Da)} (h : RpT K H kvs ds) : RpT K H (putK kvs k v) (putD ds k d) := by
  unfold putK putD
  rw [valV_any, valD_any, (h.val k).isSome]
  split
  · exact h.repl r
  · exact h.app (.cons r .nil)
section
variable {X : Cx} {sl : Sl} {rs : List Res} {Q : EQ} {e a b c o : Expr} {es : List Expr} {pos : Pos} {k : Nat}
abbrev Un (X : Cx) : Prop := X.A.units + 64 < cLine
theorem Vw.dTv {K : PySem.W.Frag} {T : Tw} {H : Hp} {v : V} {r : Rv} {ds : List (List Key × Da)} (w : Vw rs r (.dT ds)) (R : RepH K T rs H) (h : RpV K T v r) : ∃ a kvs, v = .ref a ∧ H a = some (.dT kvs) ∧ RpT K T.H0 kvs ds := by
  cases w with
  | sh => cases h with | dT a b => exact ⟨_, _, rfl, R.h0 _ _ a, b⟩
  | dT e =>
    obtain ⟨_, e2⟩ := h
    obtain ⟨_, vs, q2, q3⟩ := R.rs _ _ e
    exact ⟨_, vs, e2, q2, q3⟩
  | frz e =>
    obtain ⟨_, e2⟩ := h
    have q := R.rs _ _ e
    cases q with | dT a b => exact ⟨_, _, e2, R.h0 _ _ a, b⟩
theorem key_at {K : PySem.W.Frag} {T : Tw} {H : Hp} {v : V} {ks : List Da} {kk : List Key} (R : RepH K T rs H) (h : RpV K T v (.sh (.tup ks))) (e : keyDs ks = some kk) : ∃ p, v = .ref p ∧ H p = some (.tup (kk.map kV)) := by
  cases h with
  | tup a b => exact ⟨_, rfl, by rw [← keyDs_v b e]; exact R.h0 _ _ a⟩
theorem bv_inT {kvs : List (List Key × Da)} {ks : List Da} {kk : List Key} {r2 : Rv} {bb : Bool} (hu : Un X) (w : Vw rs r2 (.dT kvs)) (hk : keyDs ks = some kk) (hb : (valD kvs kk).isSome = bb) (q : Q (.sh (.bl bb)) rs) : BV X (compareOp .In) (.sh (.tup ks)) r2 rs Q :=
  ⟨fun T H v1 v2 R p1 p2 pins s σ u1 u2 I i1 i2 => by
    obtain ⟨ad, kv, e2, hd, rt⟩ := w.dTv R p2
    obtain ⟨p, e1, hp⟩ := key_at R p1 hk
    subst e1 e2
    cases i2
    refine d_in (by omega) I (DGet.t hd hp) i1 fun s' I' => ⟨.bl (valV kv kk).isSome, H, I', rfl, ?_⟩
    rw [(rt.val kk).isSome, hb]
    exact epost R (r := .sh (.bl _)) (.bl _) q⟩
theorem bv_ninT {kvs : List (List Key × Da)} {ks : List Da} {kk : List Key} {r2 : Rv} {bb : Bool} (hu : Un X) (w : Vw rs r2 (.dT kvs)) (hk : keyDs ks = some kk) (hb : (!(valD kvs kk).isSome) = bb) (q : Q (.sh (.bl bb)) rs) : BV X (compareOp .NotIn) (.sh (.tup ks)) r2 rs Q :=
  ⟨fun T H v1 v2 R p1 p2 pins s σ u1 u2 I i1 i2 => by
    obtain ⟨ad, kv, e2, hd, rt⟩ := w.dTv R p2
    obtain ⟨p, e1, hp⟩ := key_at R p1 hk
    subst e1 e2
    cases i2
    refine d_notIn (by omega) I (DGet.t hd hp) i1 fun s' I' => ⟨.bl (!(valV kv kk).isSome), H, I', rfl, ?_⟩
    rw [(rt.val kk).isSome, hb]
    exact epost R (r := .sh (.bl _)) (.bl _) q⟩
theorem ix_dict (hu : X.A.units + 1 < cLine) : IxR X (fun x y H Q => ∃ a v, x = .ref a ∧ DGet H a y (some v) ∧ Q v H) := by
  intro value slice pins s σ H x y v u Q I rx ry h hs
  obtain ⟨a, v', e, g, q⟩ := h
  subst e
  cases rx
  unfold subscriptTail
  refine wpAny_bind ?_
  have hT := dict_typeIs I g
  rw [getitemInPython_of_ne hT.not_modules]
  refine wpAny_bind (wpAny_specialOf hT PySem.F.slot_dict_getitem.lookup ?_)
  have fin : wpAny (model X.prog X.w) X.A (subscripted slice false (.ref a) u) (fun r s₃ => wpAny (model X.prog X.w) X.A (letTemporaryGo value (.ref a) r >>= fun _ => pure r) (EP X pins σ Q) X.xe s₃) X.xe s := by
    rw [hs]
    exact wpAny_operating (d_getItem hu I g ry fun w' s3 I3 rw' => wpAny_bind (wpAny_letTemporaryGo (wpAny_pure ⟨v', H, I3, rw', q⟩)))
  first
    | exact wpAny_pure (wpAny_bind fin)
    | exact wpAny_bind (wpAny_pure (wpAny_bind fin))
    | exact wpAny_bind fin
/-- d[k] -/
theorem ew_ixT (hu : Un X) (h : EW X sl a rs fun r1 rs1 => EW X sl b rs1 fun r2 rs2 => ∃ kvs ks kk d, Vw rs2 r1 (.dT kvs) ∧ r2 = .sh (.tup ks) ∧ keyDs ks = some kk ∧ valD kvs kk = some d ∧ Q (.sh d) rs2) (hp : PlainIx b := by exact (fun _ _ => rfl)) : EW X sl (.Subscript a b pos) rs Q :=
  ixR_of (ix_dict (by omega)) hp h (fun T H v1 v2 r1 r2 rs2 ⟨kvs, ks, kk, d, w, e, hk, hv, q⟩ R p1 p2 => by
    subst e
    obtain ⟨ad, kv, e2, hd, rt⟩ := w.dTv R p1
    obtain ⟨p, e1, hp⟩ := key_at R p2 hk
    obtain ⟨v, ev, rv⟩ := (rt.val kk).some_of hv
    subst e1 e2
    have g := DGet.t (k := kk) hd hp
    rw [ev] at g
    exact ⟨ad, v, rfl, g, epost R (r := .sh d) rv q⟩) fun v1 v2 H P Q k ⟨a, b, c, d, q⟩ => ⟨a, b, c, d, k _ _ q⟩
/-- d.get(k, x) -/
theorem ew_dget {o f : Expr} {apos cpos : Pos} (hu : Un X) (h : EW X sl o rs fun r0 rs1 => ∃ kvs0, Vw rs1 r0 (.dT kvs0) ∧ EW X sl e rs1 fun r1 rs2 => EW X sl f rs2 fun r2 rs3 => ∃ kvs ks kk d2, Vw rs3 r0 (.dT kvs) ∧ r1 = .sh (.tup ks) ∧ keyDs ks = some kk ∧ r2 = .sh d2 ∧ Q (.sh ((valD kvs kk).getD d2)) rs3)
    (m1 : attributeBase o "get" X.env (eval o X.env) = eval o X.env := by rfl)
    (m2 : ((backTo cpos (starEach [e, f] X.env)).all (fun x => !x.1) && (backToKw cpos (keywordEach [] X.env)).all (fun x => x.1.isSome)
    && decide (([e, f] : List Expr).length + ([] : List Keyword).length + (if ([] : List Keyword).isEmpty then 0 else 1) < 30)) = true := by rfl)
    (m3 : (apos.endLine == cpos.line) = true := by rfl) (m4 : backTo cpos (starEach [e, f] X.env) = [(false, eval e X.env), (false, eval f X.env)] := by rfl) : EW X sl (.Call (.Attribute o "get" apos) [e, f] [] cpos) rs Q :=
  ew_of (pe_dget2 (by omega) pe_S pe_S pe_S ⟨m1, m2, m3, m4⟩) fun T σ H R S => then1 h R S fun T1 rs1 r0 v0 H1 l1 R1 p0 ⟨kvs0, w0, q1⟩ => by
    obtain ⟨ad0, kv0, e0, hd0, _⟩ := w0.dTv R1 p0
    refine ⟨ad0, e0, .inr ⟨kv0, .inl hd0⟩, then1 q1 R1 (S.le l1) fun T2 rs2 r1 v1 H2 l2 R2 p1 q2 => then1 q2 R2 (S.le (l1.trans l2)) fun T3 rs3 r2 v2 H3 l3 R3 p2 ⟨kvs, ks, kk, d2, w, e1, hk, e2, q⟩ => ?_⟩
    subst e1 e2
    obtain ⟨ad, kv, e3, hd, rt⟩ := w.dTv R3 ((p0.le l2).le l3)
    rw [e0] at e3
    cases e3
    obtain ⟨p, e4, hp⟩ := key_at R3 (p1.le l3) hk
    subst e4
    exact ⟨_, DGet.t (k := kk) hd hp, T3, rs3, .sh _, (l1.trans l2).trans l3, R3, (rt.val kk).getD p2, q⟩
theorem ew_dnew (q : Q (.rf rs.length) (rs ++ [.dT []])) : EW X sl (.Dict [] [] pos) rs Q :=
  ew_of pe_dnewT fun T σ H R S => fun p hp => by
    refine ⟨_, _, .rf rs.length, T.le_more p, R.make (r := .dT []) hp ⟨?_, [], ?_, .nil⟩, at_more R p, q⟩
    · show (if (if T.n = T.n then p else T.ad T.n) = p then some T.n else _) = _; rw [if_pos rfl, if_pos rfl]
    · show upd H p (.dT []) (if T.n = T.n then p else T.ad T.n) = _; rw [if_pos rfl]; exact upd_same
theorem set_dict (hu : X.A.units + 1 < cLine) : PSet X (fun o i v H Q => ∃ a H', o = .ref a ∧ DPut H a i v H' ∧ Q H') := by
  intro pins s σ H o i v ov iv u Q I ro ri rv h
  obtain ⟨a, H', e, g, q⟩ := h
  subst e
  cases ro
  exact d_setItem hu I g ri rv fun s' I' => ⟨H', I', q⟩
/-- d[k] = v -/
theorem s_dput {o i e : Expr} {pos p2 : Pos} {R : Out} (hu : Un X) (h : EW X sl e rs fun rv rs1 => EW X sl o rs1 fun r0 rs2 => EW X sl i rs2 fun ri rs3 => ∃ k kvs ks kk d, r0 = .rf k ∧ rs3[k]? = some (.dT kvs) ∧ kvs.length < 100000 ∧ ri = .sh (.tup ks) ∧ keyDs ks = some kk ∧ rv = .sh d ∧ R.nx sl (rs3.set k (.dT (putD kvs kk d))))
    (ha : ∀ v, assign (.Subscript o i p2) X.env v = (do
      let ov ← holding [v] (eval o X.env)
      let iv ← holding [v, ov] (eval i X.env)
      standAt p2
      holding [v, ov, iv] (setItem ov iv v)
      release [v, ov, iv] []) := by intro _; rfl) (hs : swapsWithSole [.Subscript o i p2] e pos.line X.env = pure false := by rfl) (hw : swappedStores [.Subscript o i p2] e X.env = pure none := by rfl)
    (h1 : (assignEach [.Subscript o i p2] X.env).map (·.2) = [assign (.Subscript o i p2) X.env] := by rfl) : S1 X sl (.Assign [.Subscript o i p2] e pos) rs R :=
  s1_of (ps_asg pe_S (pg_sub pe_S pe_S (set_dict (by omega)) ha) hs hw h1) fun T σ H hR S => then1 h hR S fun T1 rs1 rv v H1 l1 R1 p1 q1 => then1 q1 R1 (S.le l1) fun T2 rs2 r0 v0 H2 l2 R2 p2 q2 => then1 q2 R2 (S.le (l1.trans l2)) fun T3 rs3 ri vi H3 l3 R3 p3 q3 => by
    have ll := (l1.trans l2).trans l3
    have pv := p1.le (l2.trans l3)
    have po := p2.le l3
    obtain ⟨k, kvs, ks, kk, d, e1, e2, hl, e3, hk, e4, q⟩ := q3
    subst e1 e3 e4
    obtain ⟨ho, kv, hd, rt⟩ := R3.rs _ _ e2
    obtain ⟨p, e5, hp⟩ := key_at R3 p3 hk
    subst e5
    refine ⟨_, _, po.2, DPut.t (k := kk) hd hp (by rw [rt.len]; exact Nat.lt_of_lt_of_le hl (by decide)), T3, sl, _, ll, R3.write (r' := .dT _) ho ⟨ho, _, upd_same, rt.put pv⟩ (List.getElem?_eq_some_iff.mp e2).1, S.le ll, q⟩
theorem cv_lenT {kvs : List (List Key × Da)} {r1 : Rv} (w : Vw rs r1 (.dT kvs)) (q : Q (.sh (.int kvs.length)) rs) : CV X (.builtin "len") [r1] rs Q :=
  cv_of call_len_dT fun T H vs R pp => by
    obtain ⟨v, rfl, p⟩ := rp1 pp
    obtain ⟨a, kv, e, hd, rt⟩ := w.dTv R p
    exact ⟨a, kv, by rw [e], hd, by rw [rt.len]; exact epost R (r := .sh (.int _)) (.int _) q⟩
end
end DL

set_option Elab.async false
set_option linter.all false
set_option maxRecDepth 100000
set_option maxHeartbeats 4000000
namespace DL
open PySem PySem.Spec L2
open PyProof.Rows hiding St

/-! ## instances -/
inductive InsV (rs : List Res) : Rv → Addr → List (Str × Da) → Prop
  | sh {C : Addr} {fs : List (Str × Da)} : InsV rs (.sh (.ins C fs)) C fs
  | rf {k : Nat} {C : Addr} {fs : List (Str × Da)} : rs[k]? = some (.ins C fs) → InsV rs (.rf k) C fs
  | frz {k : Nat} {C : Addr} {fs : List (Str × Da)} : rs[k]? = some (.frz (.ins C fs)) → InsV rs (.rf k) C fs
theorem InsV.at {K : PySem.W.Frag} {T : Tw} {H : Hp} {rs : List Res} {v : V} {r : Rv} {C : Addr} {fs : List (Str × Da)} (w : InsV rs r C fs) (R : RepH K T rs H) (h : RpV K T v r) : ∃ a dx gs, v = .ref a ∧ H a = some (.ins C dx gs) ∧ RpF K T.H0 gs fs := by
  cases w with
  | sh => cases h with | ins a b => exact ⟨_, _, _, rfl, R.h0 _ _ a, b⟩
  | rf e =>
    obtain ⟨_, e2⟩ := h
    obtain ⟨_, dx, gs, _, _, h4, h5⟩ := R.rs _ _ e
    exact ⟨_, dx, gs, e2, h4, h5⟩
  | frz e =>
    obtain ⟨_, e2⟩ := h
    have q := R.rs _ _ e
    cases q with | ins a b => exact ⟨_, _, _, e2, R.h0 _ _ a, b⟩
theorem RpF.get {K : PySem.W.Frag} {H : Hp} {f : Str} {d : Da} : ∀ {gs : List (Str × V)} {fs : List (Str × Da)}, RpF K H gs fs → fs.lookup f = some d → ∃ v, gs.lookup f = some v ∧ Rp K H v d
  | _, _, .nil, e => by cases e
  | _, _, .cons (k := k) r t, e => by
    rw [List.lookup_cons] at e ⊢
    cases h : f == k with
    | true => rw [h] at e; cases e; exact ⟨_, rfl, r⟩
    | false => rw [h] at e; exact RpF.get t e
theorem RpF.miss {K : PySem.W.Frag} {H : Hp} {f : Str} : ∀ {gs : List (Str × V)} {fs : List (Str × Da)}, RpF K H gs fs → fs.lookup f = none → gs.lookup f = none
  | _, _, .nil, e => rfl
  | _, _, .cons (k := k) r t, e => by
    rw [List.lookup_cons] at e ⊢
    cases h : f == k with
    | true => rw [h] at e; cases e
    | false => rw [h] at e; exact RpF.miss t e
def putFD (f : Str) (v : Da) : List (Str × Da) → List (Str × Da)
  | [] => [(f, v)]
  | (g, x) :: r => if g = f then (g, v) :: r else (g, x) :: putFD f v r
theorem RpF.put {K : PySem.W.Frag} {H : Hp} {f : Str} {d : Da} {v : V} (q : Rp K H v d) : ∀ {gs : List (Str × V)} {fs : List (Str × Da)}, RpF K H gs fs → RpF K H (putF f v gs) (putFD f d fs)
  | _, _, .nil => .cons q .nil
  | _, _, .cons (k := k) r t => by
    unfold putF putFD
    by_cases e : k = f
    · rw [if_pos e, if_pos e]; exact .cons q t
    · rw [if_neg e, if_neg e]; exact .cons r (RpF.put q t)
theorem RpF.len {K : PySem.W.Frag} {H : Hp} : ∀ {gs : List (Str × V)} {fs : List (Str × Da)}, RpF K H gs fs → gs.length = fs.length
  | _, _, .nil => rfl
  | _, _, .cons _ t => by rw [List.length_cons, List.length_cons, RpF.len t]
section
variable {X : Cx} {sl : Sl} {rs : List Res} {Q : EQ} {e a b c o : Expr} {es : List Expr} {pos : Pos} {k : Nat} {sts : List Stmt} {R : Out}
theorem ew_fld {f : Str} (h : EW X sl e rs fun r rs1 => ∃ C fs d, InsV rs1 r C fs ∧ Cls X.K C ∧ NoAttr X.K C f ∧ fs.lookup f = some d ∧ Q (.sh d) rs1) (hb : attributeBase e f X.env (eval e X.env) = eval e X.env := by rfl) : EW X sl (.Attribute e f pos) rs Q :=
  ew_of (pe_fld pe_S hb) fun T σ H hR S => then1 h hR S fun T1 rs1 r v H1 l1 R1 p1 ⟨C, fs, d, w, hc, hn, hl, q⟩ => by
    obtain ⟨ad, dx, gs, e1, e2, rf⟩ := w.at R1 p1
    obtain ⟨v', e3, rv⟩ := rf.get hl
    exact ⟨ad, C, dx, gs, v', e1, e2, hc, hn, e3, T1, rs1, .sh d, l1, R1, rv, q⟩
theorem s_fld {f : Str} {p2 : Pos} (h : EW X sl e rs fun rv rs1 => EW X sl o rs1 fun r0 rs2 => ∃ k C fs d, r0 = .rf k ∧ rs2[k]? = some (.ins C fs) ∧ rv = .sh d ∧ Cls X.K C ∧ NoAttr X.K C f ∧ fs.length < 100 ∧ R.nx sl (rs2.set k (.ins C (putFD f d fs)))) (hs : swapsWith e (some (.Attribute o f p2)) pos.line X.env = pure false := by rfl) : S1 X sl (.Assign [.Attribute o f p2] e pos) rs R :=
  s1_of (ps_fld pe_S pe_S hs) fun T σ H hR S => then1 h hR S fun T1 rs1 rv v H1 l1 R1 p1 q1 => then1 q1 R1 (S.le l1) fun T2 rs2 r0 v0 H2 l2 R2 p2 ⟨k, C, fs, d, e1, e2, e3, hc, hn, hl, q⟩ => by
    subst e1 e3
    obtain ⟨ho, dx, gs, h2, h3, h4, h5⟩ := R2.rs _ _ e2
    have ne : dx ≠ T2.ad k := fun z => by rw [z, h4] at h3; cases h3
    exact ⟨_, C, dx, gs, p2.2, h4, hc, hn, by rw [h5.len]; omega, T2, sl, _, l1.trans l2, R2.write (r' := .ins C _) ho ⟨ho, dx, _, h2, by rw [upd_ne ne]; exact h3, upd_same, h5.put (p1.le l2)⟩ (List.getElem?_eq_some_iff.mp e2).1, S.le (l1.trans l2), q⟩
/-- a method with its contract -/
structure MeC (P : Program) (w : World) (K : PySem.W.Frag) (mg : Str → Option Value) (base : Heap) (C : Addr) (m : Str) (ps : List Str) (k : Nat) (c : Ct) : Prop where
  ex : ∃ f fd, Meth K C m f ∧ Binds K fd ps [] ∧ FnOk P w K mg base CX0 k f fd ps (cSp K c)
  cls : Cls K C
  mono : Mono c
theorem ew_meth {P : Program} {w : World} {K : PySem.W.Frag} {mg : Str → Option Value} {base : Heap} {C : Addr} {m : Str} {ps : List Str} {c : Ct} {apos : Pos} (M : MeC P w K mg base C m ps k c) (hr : Room k X.A)
    (h : EW X sl o rs fun r0 rs1 => ∃ fs, InsV rs1 r0 C fs ∧ fs.lookup m = none ∧ AW X sl (e :: es) rs1 fun as rs2 => Kc c (r0 :: as) rs2 Q)
    (e1 : X.prog = P := by rfl) (e2 : X.w = w := by rfl) (e3 : X.K = K := by rfl) (e4 : X.mg = mg := by rfl) (e5 : X.base = base := by rfl) {pl : Sem Bool}
    (hst : starEach (e :: es) X.env = (false, eval e X.env) :: starEach es X.env := by rfl) (hpl : (backTo pos (starEach es X.env)).any (·.1) = false := by rfl)
    (ht : eval (.Call (.Attribute o m apos) (e :: es) [] pos) X.env = (do
      let ov ← eval o X.env
      standAt apos.atName
      let (f, first) ← holding [ov] (getMethod ov m pl)
      callWith pos f first (backTo pos (starEach (e :: es) X.env)) (backToKw pos (keywordEach [] X.env))) := by rfl) : EW X sl (.Call (.Attribute o m apos) (e :: es) [] pos) rs Q := by
  subst e1 e2 e3 e4 e5
  obtain ⟨f, fd, hm, hb, G⟩ := M.ex
  refine ew_of (pe_meth pe_S M.cls hm G hr hb .nil pass0 pa_S hst hpl ht) fun T σ H hR S => then1 h hR S fun T1 rs1 r0 v H1 l1 R1 p1 ⟨fs, w, hn, q1⟩ => ?_
  obtain ⟨ad, dx, gs, e1, e2, rf⟩ := w.at R1 p1
  refine ⟨ad, dx, gs, e1, e2, rf.miss hn, thenA q1 R1 (S.le l1) fun T2 rs2 as vs H2 l2 R2 p2 q2 => ?_⟩
  have q := Kc.sp (E := E0) q2 R2 (.cons (p1.le l2) p2) M.mono
  show cSp X.K c (v :: (vs ++ [])) H2 (EPost X.K T Q) E0
  rw [List.append_nil]
  obtain ⟨T', rs', as', a, b, d⟩ := q
  exact ⟨T', rs', as', a, b, M.mono _ _ _ _ (fun r rs'' q v T'' H'' l R'' p'' => (q v T'' H'' l R'' p'').le (l1.trans l2)) d⟩
theorem ew_meth0 {P : Program} {w : World} {K : PySem.W.Frag} {mg : Str → Option Value} {base : Heap} {C : Addr} {m : Str} {ps : List Str} {c : Ct} {apos : Pos} (M : MeC P w K mg base C m ps k c) (hr : Room k X.A)
    (h : EW X sl o rs fun r0 rs1 => ∃ fs, InsV rs1 r0 C fs ∧ fs.lookup m = none ∧ Kc c [r0] rs1 Q)
    (e1 : X.prog = P := by rfl) (e2 : X.w = w := by rfl) (e3 : X.K = K := by rfl) (e4 : X.mg = mg := by rfl) (e5 : X.base = base := by rfl) {pl : Sem Bool}
    (ht : eval (.Call (.Attribute o m apos) [] [] pos) X.env = (do
      let ov ← eval o X.env
      standAt apos.atName
      let (f, first) ← holding [ov] (getMethod ov m pl)
      callWith pos f first (backTo pos (starEach [] X.env)) (backToKw pos (keywordEach [] X.env))) := by rfl) : EW X sl (.Call (.Attribute o m apos) [] [] pos) rs Q := by
  subst e1 e2 e3 e4 e5
  obtain ⟨f, fd, hm, hb, G⟩ := M.ex
  refine ew_of (pe_meth0 pe_S M.cls hm G hr hb .nil pass0 ht) fun T σ H hR S => then1 h hR S fun T1 rs1 r0 v H1 l1 R1 p1 ⟨fs, w, hn, q1⟩ => ?_
  obtain ⟨ad, dx, gs, e1, e2, rf⟩ := w.at R1 p1
  refine ⟨ad, dx, gs, e1, e2, rf.miss hn, ?_⟩
  have q := Kc.sp (E := E0) q1 R1 (.cons p1 .nil) M.mono
  obtain ⟨T', rs', as', a, b, d⟩ := q
  exact ⟨T', rs', as', a, b, M.mono _ _ _ _ (fun r rs'' q v T'' H'' l R'' p'' => (q v T'' H'' l R'' p'').le l1) d⟩
/-! ### a new one -/
def Tw.more2 (T : Tw) (p q : Addr) : Tw := { T with own := fun a => if a = p ∨ a = q then some T.n else T.own a, n := T.n + 1, ad := fun k => if k = T.n then p else T.ad k }
theorem RepH.make2 {K : PySem.W.Frag} {T : Tw} {H : Hp} {p q : Addr} {C : Addr} (hR : RepH K T rs H) (hp : H p = none) (hq : H q = none) (hne : q ≠ p) : RepH K (T.more2 p q) (rs ++ [.ins C []]) (upd (upd H q (.own p)) p (.ins C q [])) ∧ T.le (T.more2 p q) := by
  have le0 : T.le (T.more2 p q) := ⟨.refl _, rfl, Nat.le_succ _, fun k hk => if_neg (Nat.ne_of_lt hk)⟩
  have kp : Kp H (upd (upd H q (.own p)) p (.ins C q [])) := (Kp.new hq).trans (.new (by rw [upd_ne (Ne.symm hne)]; exact hp))
  refine ⟨⟨by rw [List.length_append, hR.n]; rfl, hR.h0.trans kp, hR.fr.trans kp, fun a k e => ?_, hR.df, fun k r e => ?_, fun a xs e => ?_⟩, le0⟩
  rotate_left 2
  · by_cases ha : a = p
    · subst ha
      rw [upd_same] at e; cases e
    · rw [upd_ne ha] at e
      by_cases hb : a = q
      · subst hb
        rw [upd_same] at e; cases e
      · rw [upd_ne hb] at e; exact hR.tu a xs e
  · by_cases ha : a = p ∨ a = q
    · rcases ha with rfl | rfl
      · exact ⟨hR.h0.none hp, hR.fr.none hp, by rw [upd_same]; exact fun z => nomatch z⟩
      · exact ⟨hR.h0.none hq, hR.fr.none hq, by rw [upd_ne hne, upd_same]; exact fun z => nomatch z⟩
    · have e' : T.own a = some k := by rw [← e]; exact (if_neg ha).symm
      obtain ⟨h1, h2, h3⟩ := hR.dj a k e'
      exact ⟨h1, h2, by rw [upd_ne (fun z => ha (.inl z)), upd_ne (fun z => ha (.inr z))]; exact h3⟩
  · by_cases hk : k < rs.length
    · rw [List.getElem?_append_left hk] at e
      refine (hR.rs k r e).keep (T := T) (T' := T.more2 p q) le0 (hR.lt e) fun a ha => ⟨?_, fun u hu => kp a u hu⟩
      have h3 := (hR.dj a k ha).2.2
      show (if a = p ∨ a = q then some T.n else T.own a) = some k
      rw [if_neg (fun z => h3 (z.elim (fun z => by rw [z]; exact hp) fun z => by rw [z]; exact hq))]; exact ha
    · have hk2 : k = rs.length := by
        have := (List.getElem?_eq_some_iff.mp e).1
        rw [List.length_append, List.length_singleton] at this
        omega
      subst hk2
      rw [List.getElem?_append_right (Nat.le_refl _), Nat.sub_self] at e
      have e' : Res.ins C [] = r := Option.some.inj e
      subst e'
      have ad : (T.more2 p q).ad rs.length = p := by rw [hR.n]; exact if_pos rfl
      refine ⟨?_, q, [], ?_, ?_, ?_, .nil⟩
      · rw [ad, hR.n]; exact if_pos (.inl rfl)
      · rw [hR.n]; exact if_pos (.inr rfl)
      · rw [ad, upd_ne hne, upd_same]
      · rw [ad, upd_same]
/-- what __init__ does: the fields by the arguments -/
def ctI {α : Type} (C : Addr) (pre : α → Prop) (arg : α → List Da) (fields : α → List (Str × Da)) : Ct := fun as rs Q => ∃ a, as = .rf 0 :: (arg a).map .sh ∧ rs = [.ins C []] ∧ pre a ∧ Q (.sh .non) [.ins C (fields a)]
structure MkC (P : Program) (w : World) (K : PySem.W.Frag) (mg : Str → Option Value) (base : Heap) (C : Addr) (x : Str) (ps : List Str) (k : Nat) {α : Type} (pre : α → Prop) (arg : α → List Da) (fields : α → List (Str × Da)) : Prop where
  ex : ∃ f fd, mg x = some (.ref C) ∧ Mk K C f ∧ Binds K fd ps [] ∧ FnOk P w K mg base CX0 k f fd ps (cSp K (ctI C pre arg fields))
theorem made_sp {K : PySem.W.Frag} {α : Type} {C : Addr} {pre : α → Prop} {arg : α → List Da} {fields : α → List (Str × Da)} {T0 T : Tw} {H : Hp} {as : List Rv} {vs : List V} {x dx : Addr} {E : XK} (l0 : T0.le T) (hR : RepH K T rs H) (p : RpVs K T vs as) (a : α) (sh : Shs rs as (arg a)) (hp : pre a) (q : Q (.sh (.ins C (fields a))) (rs ++ [.off]))
    (hx : H x = none) (hdx : H dx = none) (hne : dx ≠ x) : cSp K (ctI C pre arg fields) (.ref x :: vs) (upd (upd H dx (.own x)) x (.ins C dx [])) (fun v H2 => v = .non ∧ EPost K T0 Q (.ref x) H2) E := by
  obtain ⟨R2, l2⟩ := hR.make2 (C := C) hx hdx hne
  have hj : (rs ++ [Res.ins C []])[rs.length]? = some (.ins C []) := by rw [List.getElem?_append_right (Nat.le_refl _), Nat.sub_self]; rfl
  have ad : (T.more2 x dx).ad rs.length = x := by rw [hR.n]; exact if_pos rfl
  have rps : Rps K (T.more2 x dx).H0 vs (arg a) := (sh.rps hR p).mono l2.h0
  refine ⟨(T.more2 x dx).call1 _ rs.length, [.ins C []], .rf 0 :: (arg a).map .sh, R2.call1 hj rfl, .cons ⟨Nat.zero_lt_one, by show V.ref x = .ref ((T.more2 x dx).ad rs.length); rw [ad]⟩ (shs_rpv rps), a, rfl, rfl, hp, fun v T' H' l R' p' => ⟨nonOf p', ?_⟩⟩
  obtain ⟨R3, l3⟩ := R2.back1 hj l R' rfl
  have e3 : ((rs ++ [Res.ins C []]).set rs.length (.ins C (fields a)) ++ ([] : List Res)) = rs ++ [.ins C (fields a)] := by
    rw [List.append_nil, List.set_append_right _ _ (Nat.le_refl _), Nat.sub_self]; rfl
  rw [e3] at R3
  have hj3 : (rs ++ [Res.ins C (fields a)])[rs.length]? = some (.ins C (fields a)) := by rw [List.getElem?_append_right (Nat.le_refl _), Nat.sub_self]; rfl
  obtain ⟨T4, l4, R4⟩ := gh_frzI hj3 _ _ R3
  have e4 : (rs ++ [Res.ins C (fields a)]).set rs.length (.frz (.ins C (fields a))) = rs ++ [.frz (.ins C (fields a))] := by
    rw [List.set_append_right _ _ (Nat.le_refl _), Nat.sub_self]; rfl
  rw [e4] at R4
  have hj4 : (rs ++ [Res.frz (.ins C (fields a))])[rs.length]? = some (.frz (.ins C (fields a))) := by rw [List.getElem?_append_right (Nat.le_refl _), Nat.sub_self]; rfl
  have w4 : Rp K T4.H0 (.ref (T4.ad rs.length)) (.ins C (fields a)) := R4.rs _ _ hj4
  have lt : rs.length < (T.more2 x dx).n := by rw [hR.n]; exact Nat.lt_succ_self _
  have ad4 : T4.ad rs.length = x := by
    rw [l4.ad _ (Nat.lt_of_lt_of_le lt l3.n), l3.ad _ lt]; exact ad
  rw [ad4] at w4
  obtain ⟨T5, l5, R5⟩ := gh_off (k := rs.length) _ _ R4
  have e5 : (rs ++ [Res.frz (.ins C (fields a))]).set rs.length .off = rs ++ [.off] := by
    rw [List.set_append_right _ _ (Nat.le_refl _), Nat.sub_self]; rfl
  rw [e5] at R5
  exact ⟨T5, _, .sh _, (((l0.trans l2).trans l3).trans l4).trans l5, R5, Rp.mono l5.h0 w4, q⟩
theorem ew_make {P : Program} {w : World} {K : PySem.W.Frag} {mg : Str → Option Value} {base : Heap} {C : Addr} {x : Str} {ps : List Str} {α : Type} {pre : α → Prop} {arg : α → List Da} {fields : α → List (Str × Da)} {p : Pos} (M : MkC P w K mg base C x ps k pre arg fields) (hr : Room (k + 1) X.A)
    (h : AW X sl (e :: es) rs fun as rs1 => ∃ a, Shs rs1 as (arg a) ∧ pre a ∧ Q (.sh (.ins C (fields a))) (rs1 ++ [.off]))
    (e1 : X.prog = P := by rfl) (e2 : X.w = w := by rfl) (e3 : X.K = K := by rfl) (e4 : X.mg = mg := by rfl) (e5 : X.base = base := by rfl) (hg : Gl X x := by rfl)
    (hdb : (x == ("__debug__" : Str)) = false := by decide) (he : starEach (e :: es) X.env = (false, eval e X.env) :: starEach es X.env := by rfl) (hpl : (backTo pos (starEach es X.env)).any (·.1) = false := by rfl) : EW X sl (.Call (.Name x p) (e :: es) [] pos) rs Q := by
  subst e1 e2 e3 e4 e5
  obtain ⟨f, fd, hm, mk, hb, G⟩ := M.ex
  refine ew_of (pe_make mk G hr hg hm hb .nil pass0 pa_S hdb he hpl) fun T σ H hR S => thenA h hR S fun T1 rs1 as vs H1 l1 R1 p1 ⟨a, sh, hp, q⟩ => fun x dx hx hdx hne => ?_
  rw [List.append_nil]
  exact made_sp l1 R1 p1 a sh hp q hx hdx hne
theorem meC_mk {P : Program} {w : World} {K : PySem.W.Frag} {mg : Str → Option Value} {base : Heap} {C : Addr} {x : Str} {qual : Str} {st : Stmt} {f : Addr} {fd : FuncData} {ps : List Str} {c : Ct} (_F : Fun K x qual st f fd) (M : Meth K C x f) (hc : Cls K C) (hb : Binds K fd ps []) (G : FnOk P w K mg base CX0 k f fd ps (cSp K c)) (mono : Mono c) : MeC P w K mg base C x ps k c := ⟨⟨f, fd, M, hb, G⟩, hc, mono⟩
/-! ## what is behind a body, cut -/
/-- the slots and the first things, wanted so -/
def TrimS (K : PySem.W.Frag) (n0 : Nat) (Q : SQ) : SQ := fun sl0 rs0 => ∃ rs, Gh K rs0 rs ∧ ∃ m sl, n0 ≤ m ∧ m ≤ rs.length ∧ (rs.take m).all Res.cl = true ∧ Sle sl0 sl ∧ (∀ (i : Nat) (r : Rv), sl[i]? = some (some r) → Rv.lt m r) ∧ Q sl (rs.take m)
theorem SlOk.trim {K : PySem.W.Frag} {T T' : Tw} {sl : Sl} {σ : L2.St} {m : Nat} (h : SlOk K T sl σ) (h0 : T'.H0 = T.H0) (hn : T'.n = m) (ha : T'.ad = T.ad) (hl : ∀ (i : Nat) (r : Rv), sl[i]? = some (some r) → Rv.lt m r) : SlOk K T' sl σ :=
  ⟨h.len, fun i r e => let ⟨v, a, b⟩ := h.get i r e; ⟨v, a, b.trim h0 hn ha (hl i r e)⟩⟩
theorem SPost.trim {K : PySem.W.Frag} {T : Tw} {Q : SQ} {σ : L2.St} {H : Hp} (h : SPost K T (TrimS K T.n Q) σ H) : SPost K T Q σ H := by
  obtain ⟨T', sl0, rs0, l, R', S', rs1, g, m, sl1, h1, h2, h3, h4, h5, q⟩ := h
  obtain ⟨T2, l2, R2⟩ := g T' H R'
  obtain ⟨T3, l3, R3, e1, e2, e3⟩ := R2.trim (l.trans l2) h1 h2 h3
  exact ⟨T3, sl1, _, l3, R3, ((S'.le l2).weak h4).trim e1 e2 e3 h5, q⟩
theorem sw_trim (h : SW X sl sts rs { nx := TrimS X.K rs.length R.nx, rt := R.rt, bk := TrimS X.K rs.length R.bk, ct := TrimS X.K rs.length R.ct }) : SW X sl sts rs R := ⟨fun T σ H hR hS => (h.go T σ H hR hS).mono
  ⟨fun _ _ q => SPost.trim (by rw [← hR.n]; exact q), fun _ _ q => q, fun _ _ q => SPost.trim (by rw [← hR.n]; exact q), fun _ _ q => SPost.trim (by rw [← hR.n]; exact q)⟩⟩
theorem trimS_of {K : PySem.W.Frag} {n0 : Nat} {Q : SQ} {sl0 sl : Sl} {rs : List Res} (m : Nat) (q : Q sl (rs.take m)) (w : Sle sl0 sl) (h5 : ∀ (i : Nat) (r : Rv), sl[i]? = some (some r) → Rv.lt m r) (h1 : n0 ≤ m := by simp) (h2 : m ≤ rs.length := by simp) (h3 : (rs.take m).all Res.cl = true := by rfl) : TrimS K n0 Q sl0 rs := ⟨rs, .refl, m, sl, h1, h2, h3, w, h5, q⟩
/-! ## more of lists -/
theorem mv_insert {ds : List Da} {d : Da} {i : Nat} (e : rs[k]? = some (.lst ds)) (hl : ds.length < 100000) (hi : i < 100000) (q : Q (.sh .non) (rs.set k (.lst (ds.take i ++ [d] ++ ds.drop i)))) : MV X "list.insert" (.rf k) [.sh (.int (i : Int)), .sh d] rs Q :=
  mv_of mt_insert fun T H v vs hR p pp2 => by
    obtain ⟨w, w', rfl, p2, p3⟩ := rp2 pp2
    obtain ⟨ho, hk, us, h2, h3⟩ := own_lst hR e
    refine ⟨_, us, i, w', p.2, by rw [intOf p2], h2, by rw [h3.len]; exact Nat.lt_of_lt_of_le hl (by decide), by omega, by omega, T, _, .sh .non, .refl T, write_lst hR ho hk ?_, .non, q⟩
    rw [Int.toNat_natCast]
    exact ((h3.take i).app (.one p3)).app (h3.drop i)
theorem rps_rev {K : PySem.W.Frag} {H : Hp} : ∀ {vs : List V} {ds : List Da}, Rps K H vs ds → Rps K H vs.reverse ds.reverse
  | _, _, .nil => .nil
  | _, _, .cons r t => by rw [List.reverse_cons, List.reverse_cons]; exact (rps_rev t).app (.one r)
/-- list + list, a new one that stays | of ours -/
theorem bv_cat {ds es' : List Da} {r1 r2 : Rv} (w1 : Vw rs r1 (.lst ds)) (w2 : Vw rs r2 (.lst es')) (hl : ds.length + es'.length ≤ 100000) (q : Q (.sh (.lst (ds ++ es'))) rs) : BV X (binaryOp .Add) r1 r2 rs Q :=
  bv_of op_cat fun T H v1 v2 hR p1 p2 => by
    obtain ⟨a, vs, e1, h1, q1⟩ := w1.lstv' hR p1
    obtain ⟨b, ws, e2, h2, q2⟩ := w2.lstv' hR p2
    refine ⟨a, b, vs, ws, e1, e2, h1, h2, by rw [q1.len, q2.len]; exact Nat.le_trans hl (by decide), fun p hp => ?_⟩
    obtain ⟨R2, l2⟩ := hR.share (o := .lst (vs ++ ws)) hp
    exact ⟨_, rs, .sh (.lst _), l2, R2, Rp.lst upd_same ((q1.app q2).mono l2.h0), q⟩
theorem bv_catM {ds es' : List Da} {r1 r2 : Rv} (w1 : Vw rs r1 (.lst ds)) (w2 : Vw rs r2 (.lst es')) (hl : ds.length + es'.length ≤ 100000) (q : Q (.rf rs.length) (rs ++ [.lst (ds ++ es')])) : BV X (binaryOp .Add) r1 r2 rs Q :=
  bv_of op_cat fun T H v1 v2 hR p1 p2 => by
    obtain ⟨a, vs, e1, h1, q1⟩ := w1.lstv' hR p1
    obtain ⟨b, ws, e2, h2, q2⟩ := w2.lstv' hR p2
    refine ⟨a, b, vs, ws, e1, e2, h1, h2, by rw [q1.len, q2.len]; exact Nat.le_trans hl (by decide), fun p hp => ?_⟩
    exact ⟨_, _, .rf rs.length, T.le_more p, make_lst hR hp (q1.app q2), at_more hR p, q⟩
theorem cv_divmod {i j : Int} (h : 0 < j ∧ j < 1073741824) (q : Q (.sh (.tup [.int (i / j), .int (i % j)])) rs) : CV X (.builtin "divmod") [.sh (.int i), .sh (.int j)] rs Q :=
  cv_of call_divmod fun T H vs hR pp => by
    obtain ⟨v, w, rfl, p, p'⟩ := rp2 pp
    refine ⟨i, j, by rw [intOf p, intOf p'], ?_, fun pp hp => ?_⟩
    · exact h
    · obtain ⟨R2, l2⟩ := hR.share (o := .tup [.int (i / j), .int (i % j)]) hp
      exact ⟨_, rs, .sh (.tup _), l2, R2, Rp.tup upd_same (.cons (.int _) (.one (.int _))), q⟩
end
end DL

set_option Elab.async false
set_option linter.all false
set_option maxRecDepth 100000
set_option maxHeartbeats 4000000
/-! ## enumerate of a tuple -/
namespace PySem
open Sem (wp)
open AutoSeq1 (wpAny_loadPart')
set_option maxHeartbeats 1000000 in
theorem dl_meets_enumerate_newB {v : Value} {o : Obj} {H : Heap → Prop} (B : Begins v o H) :
    Meets (Builtin.«enumerate.__new__» ⟨[.type "enumerate", v], []⟩) (fun _ R s => H s.heap ∧
      R (.ok (.ret (.ref (s.heap.push o).objs.size))) { s with heap := (s.heap.push o).push { cls := .type "enumerate", data := .fields #[.none, .bool false, .ref s.heap.objs.size, rawInt 0, .none, .none] } }) :=
  .of_wp fun prog w A R s h => by
    obtain ⟨hp, g, d, tk, os⟩ := s; obtain ⟨h1, h⟩ := h
    have hsub := sub_enumerate
    have q1 : ∀ {A' : Around} {E : Value → Shared → Prop} {Q : Value → Shared → Prop}, Q (.ref hp.objs.size) ⟨hp.push o, g, d, tk, os⟩ → wpAny (model prog w) A' (pyIter v) Q E ⟨hp, g, d, tk, os⟩ :=
      fun q => B.iter prog w _ _ ⟨hp, g, d, tk, os⟩ _ h1 q
    wp_walk using q1
    refine wpAny_stack_any fun st => wpAny_pure ?_
    split
    · rename_i c _ _ _ _ _
      cases (c == Value.type "enumerate")
      · wp_walk using q1
        exact ⟨_, rfl, h⟩
      · wp_walk using q1
        exact ⟨_, rfl, h⟩
    · wp_walk using q1
      exact ⟨_, rfl, h⟩
section
variable {prog : Program} {w : World} {A : Around} {E : Value → Shared → Prop} {s : Shared}
theorem dl_enum_begins {v : Value} {o : Obj} {H : Heap → Prop} {Q : Value → Shared → Prop} (B : Begins v o H) (h1 : H s.heap)
    (h : ∀ h', IsEnum h' (s.heap.objs.size + 1) s.heap.objs.size 0 .none → h'.get? s.heap.objs.size = some o → h'.objs.size = s.heap.objs.size + 2 →
      (∀ b o, s.heap.get? b = some o → h'.get? b = some o) → Q (.ref (s.heap.objs.size + 1)) { s with heap := h' }) :
    wpAny (model prog w) A (call (.type "enumerate") [v]) Q E s := by
  refine callType_new F.called_enumerate (by decide) (F.typeCall_enumerate_1 _) (F.newCall_enumerate_1 _) (fun obj => F.args_object_init_2 obj _) F.entry_enumerate_new
    (dl_meets_enumerate_newB B) ⟨h1, ?_⟩
  have hz : (s.heap.push o).objs.size = s.heap.objs.size + 1 := Heap.size_push ..
  show _ ∧ _
  rw [hz]
  have he : IsEnum ((s.heap.push o).push { cls := .type "enumerate", data := .fields #[.none, .bool false, .ref s.heap.objs.size, rawInt 0, .none, .none] }) (s.heap.objs.size + 1) s.heap.objs.size 0 .none := by
    have := Heap.get?_push_size (s.heap.push o) (o := { cls := .type "enumerate", data := .fields #[.none, .bool false, .ref s.heap.objs.size, rawInt 0, .none, .none] }) rfl
    rw [hz] at this; exact this
  refine ⟨⟨_, he, rfl⟩, h _ he (Heap.get?_push_of_some _ (Heap.get?_push_size _ B.free)) (by rw [Heap.size_push, hz]) fun b o x => Heap.get?_push_of_some _ (Heap.get?_push_of_some _ x)⟩
end
end PySem
namespace DL
open PySem PySem.Spec L2
open PyProof.Rows hiding St
def IteT (a : Addr) (xs : List V) : It :=
  ⟨fun i H => H a = some (.tup xs) ∧ i < xs.length, fun i H v H' => ∃ T x, v = .ref T ∧ H T = none ∧ H' = upd H T (.tup [.int (i : Nat), x]) ∧ xs[i]? = some x, fun i H => H a = some (.tup xs) ∧ i = xs.length⟩
theorem turn_enumT {P : Program} {w : World} {K : PySem.W.Frag} {elts : List Expr} {kk : Nat} {tpos : Pos} (a e it : Addr) (xs : List V) :
    Turn P w K (.Tuple elts kk tpos) (IteT a xs) [e, it] e (fun i h => (∃ old, IsEnum h e it ((i : Nat) : Int) old) ∧ h.IsTupleIter it a i ∧ e ≠ it) where
  mem := by simp
  obj := fun i h st b hb => by
    obtain ⟨⟨old, he⟩, ⟨o, ho, hc, hd⟩, _⟩ := st
    have e' : b = e ∨ b = it := by simpa using hb
    rcases e' with z | z
    · rw [z]; exact ⟨_, he, fun v q => nomatch q⟩
    · rw [z]; exact ⟨o, ho, fun v q => by rw [hd] at q; cases q⟩
  keep := fun i h h' st k => let ⟨⟨old, he⟩, hi, hne⟩ := st; ⟨⟨old, k e (by simp) _ he⟩, hi.at fun o q => k it (by simp) o q, hne⟩
  item := by
    intro X hP hw hK hc i pins s σ H E I hf st hg
    subst hP hw hK
    obtain ⟨⟨old, he⟩, hit, hne⟩ := st
    obtain ⟨hq, hlt⟩ := hg
    obtain ⟨its, rv, p, hz⟩ := I.tuple (SqT.of hq)
    have hx : xs[i]? = some xs[i] := List.getElem?_eq_getElem hlt
    obtain ⟨u, hu, ru⟩ := rv.get hx
    have hel : e < s.heap.objs.size := Heap.lt_size he
    have hil : it < s.heap.objs.size := by obtain ⟨_, q, _⟩ := hit; exact Heap.lt_size q
    have hai : a ≠ it := fun z => by
      have := (hf it (by simp)).1
      rw [← z, hq] at this; cases this
    have hae : a ≠ e := fun z => by
      have := (hf e (by simp)).1
      rw [← z, hq] at this; cases this
    have D : Draws X.prog X.w X.A.in1 it [it, a] its.toArray.size (fun i v => its.toArray[i]? = some v) (fun i h => h.IsTupleIter it a i ∧ h.IsTuple a its.toArray) := Draws.tuple (A := X.A.in1) (show X.A.in1.handled = none from I.ok.hd hc) it a hai its.toArray
    refine wpAny_pyNext_enum_itemC (c := ((i : Nat) : Int)) D he ⟨hit, p⟩ (by rw [List.size_toArray, ← rv.length]; exact hlt) hne (by simp; exact ⟨hne, Ne.symm hae⟩) fun x h' tk hPx ho hit' hT hsz hk => ?_
    have ex : x = u := by
      have : its[i]? = some x := by simpa using hPx
      rw [hu] at this; exact (Option.some.inj this).symm
    subst ex
    refine ⟨_, rfl, wpAny_letOwnedTupleGo_enum (s := { s with heap := h', toks := tk + 1 }) ho fun h'' he' sb => ?_⟩
    have hT2 : h''.get? s.heap.objs.size = some { cls := .type "tuple", data := .seq #[.int i tk, x] } := (sb.2 _ (Nat.ne_of_gt hel)).trans hT
    have new : ObjOk X.prog X.w (upd H s.heap.objs.size (.tup [.int (i : Nat), xs[i]])) h'' s.heap.objs.size (.tup [.int (i : Nat), xs[i]]) :=
      ⟨by show 2 ≤ sizeLine; decide, [.int i tk, x], .cons ⟨_, rfl⟩ (.cons ru .nil), ⟨_, hT2, rfl, _, rfl⟩⟩
    have I1 : Inv X pins σ (upd H s.heap.objs.size (.tup [.int (i : Nat), xs[i]])) { s with heap := h'', toks := tk + 1 } :=
      I.turnedNew (ch := [e, it]) (fun b ob hb q => (sb.2 b (fun z => hb (by simp [z]))).trans (hk b ob (fun z => hb (by simp [z])) (fun z => hb (by simp [z])) q)) hf (Nat.le_refl _) new
    refine ⟨.ref s.heap.objs.size, _, I1, rfl, ⟨_, _, rfl, I.hok.fresh (Nat.le_refl _), rfl, hx⟩, ⟨⟨x, ?_⟩, hit'.1.at fun o q => (sb.2 it (Ne.symm hne)).trans q, hne⟩, fun b hb => ?_⟩
    · have e1 : ((i + 1 : Nat) : Int) = (i : Int) + 1 := by omega
      rw [e1]; exact he'
    · have hb' : b < s.heap.objs.size := by
        have e' : b = e ∨ b = it := by simpa using hb
        rcases e' with z | z
        · rw [z]; exact hel
        · rw [z]; exact hil
      rw [upd_ne (Nat.ne_of_lt hb')]
      exact (hf b hb).1
  done := by
    intro X hP hw hK hc i pins s σ H E I hf st hg
    subst hP hw hK
    obtain ⟨⟨old, he⟩, hit, hne⟩ := st
    obtain ⟨hq, hx⟩ := hg
    obtain ⟨its, rv, p, hz⟩ := I.tuple (SqT.of hq)
    obtain ⟨f0, f1, f2, f3, f4, f5⟩ := hf it (by simp)
    have hai : a ≠ it := fun z => by rw [← z, hq] at f0; cases f0
    have D : Draws X.prog X.w X.A.in1 it [it, a] its.toArray.size (fun i v => its.toArray[i]? = some v) (fun i h => h.IsTupleIter it a i ∧ h.IsTuple a its.toArray) := Draws.tuple (A := X.A.in1) (show X.A.in1.handled = none from I.ok.hd hc) it a hai its.toArray
    have ei : its.toArray.size = i := by rw [List.size_toArray, ← rv.length]; exact hx.symm
    exact wpAny_pyNext_enum_endD D he ⟨by rw [ei]; exact hit, p⟩ fun h' eb => ⟨rfl, I.turned (t' := s.toks) (fun b o hb q => eb b o (fun z => hb (by simp [z])) q) f0 f1 f3 f4 f5⟩
  self := fun A i s Q E st h => let ⟨⟨_, he⟩, _⟩ := st; wpAny_pyIter_enum he h
def iEnumT (ta : TA) : TI := fun σ H R => ta σ H fun vs H1 => ∃ a xs, vs = [.ref a] ∧ H1 a = some (.tup xs) ∧ R (IteT a xs) H1
theorem pi_enumT {X : Cx} {e : Expr} {ta : TA} {p pos tpos : Pos} {elts : List Expr} {kk : Nat} (hg : Gl X "enumerate") (hm : X.mg "enumerate" = none) (ha : PA X [e] ta) (hs : starEach [e] X.env = [(false, eval e X.env)] := by rfl) :
    PI X (.Tuple elts kk tpos) (.Call (.Name "enumerate" p) [e] [] pos) (iEnumT ta) := by
  refine ⟨fun pins s σ H R I h => ?_⟩
  refine Call_ (ld_blt I hg hm boot_enumerate (PyProof.Rows.callWith_type1 (thn (ha.run pos pins s σ H _ I h) fun us s1 ⟨vs, H1, I1, r1, q1⟩ => ?_) hs rfl))
  obtain ⟨a, xs, ex, hq, q⟩ := q1
  subst ex
  cases r1 with
  | cons r rr =>
    cases rr
    cases r
    obtain ⟨its, rv, p', hz⟩ := I1.tuple (SqT.of hq)
    refine dl_enum_begins (begins_tuple a its.toArray) p' fun h' he hit hsz hk => wpAny_pyIter_enum he ?_
    have I2 : Inv X pins σ H1 { s1 with heap := h' } := I1.kept (t' := s1.toks) hk
    refine ⟨s1.heap.objs.size + 1, [s1.heap.objs.size + 1, s1.heap.objs.size], _, _, H1, rfl, I2, turn_enumT a (s1.heap.objs.size + 1) s1.heap.objs.size xs, ⟨⟨.none, he⟩, ⟨_, hit, rfl, rfl⟩, Nat.succ_ne_self _⟩, fun b hb => ?_, q⟩
    have e' : b = s1.heap.objs.size + 1 ∨ b = s1.heap.objs.size := by simpa using hb
    have hle : s1.heap.objs.size ≤ b := by
      rcases e' with z | z
      · rw [z]; exact Nat.le_add_right _ _
      · rw [z]; exact Nat.le_refl _
    exact I1.fpOk hle (I1.hok.fresh hle)
/-- the pairs that enumerate tells -/
def enumD (ds : List Da) : List Da := (List.range ds.length).zipWith (fun i d => .tup [.int (i : Nat), d]) ds
theorem enumD_len {ds : List Da} : (enumD ds).length = ds.length := by unfold enumD; simp
theorem enumD_get {ds : List Da} {k : Nat} {d : Da} (h : (enumD ds)[k]? = some d) : ∃ x, ds[k]? = some x ∧ d = .tup [.int (k : Nat), x] := by
  unfold enumD at h
  rw [List.getElem?_zipWith] at h
  have hk : k < ds.length := by
    have := (List.getElem?_eq_some_iff.mp (show (enumD ds)[k]? = some d by unfold enumD; rw [List.getElem?_zipWith]; exact h)).1
    rw [enumD_len] at this; exact this
  rw [List.getElem?_range hk, List.getElem?_eq_getElem hk] at h
  exact ⟨_, List.getElem?_eq_getElem hk, (Option.some.inj h).symm⟩
section
variable {X : Cx} {sl : Sl} {rs : List Res} {e : Expr} {pos p tpos : Pos} {elts : List Expr} {kk : Nat}
theorem itd_pair {K : PySem.W.Frag} {T' : Tw} {rs' : List Res} {H' : Hp} {i : Nat} {Tn : Addr} {x : V} {d : Da} (R' : RepH K T' rs' H') (h : H' Tn = none) (rx : Rp K T'.H0 x d) : ∃ T'', T'.le T'' ∧ RepH K T'' rs' (upd H' Tn (.tup [.int (i : Nat), x])) ∧ Rp K T''.H0 (.ref Tn) (.tup [.int (i : Nat), d]) := by
  obtain ⟨R2, l2⟩ := R'.share (o := .tup [.int (i : Nat), x]) h
  exact ⟨_, l2, R2, .tup upd_same (.cons (.int _) (.one (Rp.mono l2.h0 rx)))⟩
theorem iw_enumT {Q : IQ} (hm : X.mg "enumerate" = none) (h : AW X sl [e] rs fun as rs1 => ∃ ds, as = [.sh (.tup ds)] ∧ Q (enumD ds) rs1) (hg : Gl X "enumerate" := by rfl) (hs : starEach [e] X.env = [(false, eval e X.env)] := by rfl) : IW X sl (.Tuple elts kk tpos) (.Call (.Name "enumerate" p) [e] [] pos) rs Q :=
  iw_of (pi_enumT hg hm pa_S hs) fun T σ H hR S => thenA h hR S fun T1 rs1 as vs H1 l R1 p1 ⟨ds, e, q⟩ => by
    subst e
    obtain ⟨v, e, p⟩ := rp1 p1
    cases p with
    | tup hq rp =>
      rename_i a xs
      refine ⟨a, xs, e, R1.h0 _ _ hq, T1, rs1, _, l, R1, ⟨fun T' rs' H' l' R' => ⟨R'.h0 _ _ (l'.h0 _ _ hq), by rw [enumD_len, rp.len]⟩, fun i T' rs' H' hi l' R' => ⟨R'.h0 _ _ (l'.h0 _ _ hq), by rw [enumD_len] at hi; rw [rp.len]; exact hi⟩, fun i d T' rs' H' x H'' hd l' R' y => ?_⟩, q⟩
      obtain ⟨Tn, x', e1, h2, e3, h4⟩ := y
      obtain ⟨dx, h5, rfl⟩ := enumD_get hd
      obtain ⟨v', h6, h7⟩ := rp.get h5
      rw [h4] at h6; cases h6
      subst e1 e3
      exact itd_pair R' h2 (Rp.mono l'.h0 h7)
theorem iw_enum {Q : IQ} (hm : X.mg "enumerate" = none) (h : AW X sl [e] rs fun as rs1 => ∃ ds, as = [.sh (.lst ds)] ∧ Q (enumD ds) rs1) (hg : Gl X "enumerate" := by rfl) (hs : starEach [e] X.env = [(false, eval e X.env)] := by rfl) : IW X sl (.Tuple elts kk tpos) (.Call (.Name "enumerate" p) [e] [] pos) rs Q :=
  iw_of (pi_enum hg hm pa_S hs) fun T σ H hR S => thenA h hR S fun T1 rs1 as vs H1 l R1 p1 ⟨ds, e, q⟩ => by
    subst e
    obtain ⟨v, e, p⟩ := rp1 p1
    cases p with
    | lst hq rp =>
      rename_i a xs
      have hs : ∀ {T' rs' H'}, T1.le T' → RepH X.K T' rs' H' → SqL X.K H' a xs := fun l' R' => SqL.of (R'.h0 _ _ (l'.h0 _ _ hq))
      refine ⟨a, xs, e, hs (.refl _) R1, T1, rs1, _, l, R1, ⟨fun T' rs' H' l' R' => ⟨xs, hs l' R', by rw [enumD_len, rp.len]; exact Nat.le_refl _⟩, fun i T' rs' H' hi l' R' => ?_, fun i d T' rs' H' x H'' hd l' R' y => ?_⟩, q⟩
      · rw [enumD_len] at hi
        obtain ⟨v', h1, _⟩ := rp.get (List.getElem?_eq_getElem hi)
        exact ⟨xs, v', hs l' R', h1⟩
      · obtain ⟨Tn, x', e1, h2, e3, h4⟩ := y
        obtain ⟨dx, h5, rfl⟩ := enumD_get hd
        obtain ⟨v', h6, h7⟩ := rp.get h5
        have h4 := h4 xs (hs l' R')
        rw [h4] at h6; cases h6
        subst e1 e3
        exact itd_pair R' h2 (Rp.mono l'.h0 h7)
end
end DL

set_option Elab.async false
set_option linter.all false
set_option maxRecDepth 100000
set_option maxHeartbeats 4000000
namespace DL
open PySem PySem.Spec L2
open PyProof.Rows hiding St
/-! ## dict([((a, b), c) ..]) -/
def prsD : List Da → Option (List (List Key × Da))
  | [] => some []
  | .tup [.tup ks, d] :: r => match keyDs ks, prsD r with
    | some k, some rest => some ((k, d) :: rest)
    | _, _ => none
  | _ => none
def mergeD (kvs more : List (List Key × Da)) : List (List Key × Da) := more.foldl (fun acc kv => putD acc kv.1 kv.2) kvs
def mergeT (kvs more : List (List Key × V)) : List (List Key × V) := more.foldl (fun acc kv => putK acc kv.1 kv.2) kvs
theorem mergeT_len : ∀ (more kvs : List (List Key × V)), (mergeT kvs more).length ≤ kvs.length + more.length
  | [], kvs => Nat.le_refl _
  | p :: more, kvs => by
    have h1 := mergeT_len more (putK kvs p.1 p.2)
    have h2 := length_putK kvs p.1 p.2
    rw [List.length_cons]
    show (mergeT (putK kvs p.1 p.2) more).length ≤ _
    omega
theorem mergeT_rp {K : PySem.W.Frag} {H : Hp} : ∀ {more : List (List Key × V)} {md : List (List Key × Da)} {kvs : List (List Key × V)} {kd : List (List Key × Da)}, RpT K H more md → RpT K H kvs kd → RpT K H (mergeT kvs more) (mergeD kd md)
  | _, _, _, _, .nil, h => h
  | _, _, _, _, .cons (k := k) (v := v) (d := d) (vs := vs) (ds := ds) r t, h => by
    show RpT K H (mergeT (putK _ k v) vs) (mergeD (putD _ k d) ds)
    exact mergeT_rp t (h.put r)
theorem mergeT_kt {H : Hp} : ∀ {more : List (List Key × V)} {xs : List (List Key × Addr × Value)} {kvs : List (List Key × V)} {ys : List (List Key × Addr × Value)}, KT H more xs → KT H kvs ys → KT H (mergeT kvs more) (PySem.storedAllH ys xs)
  | _, _, _, _, .nil, h => h
  | _, _, _, _, .cons (a := p) (b := q) ⟨e1, e2, e3⟩ t, h => by
    have z := mergeT_kt t (h.put p.1 (b := q.2.1) e2 e3)
    rw [e1] at z
    show KT H (mergeT (putK _ p.1 p.2) _) (PySem.storedAllH (storedH _ q.1 q.2.1 q.2.2) _)
    rw [e1]; exact z
theorem prs_of {X : Cx} {T : Tw} {pins : List (Addr × Obj)} {σ : L2.St} {H : Hp} {s : Shared} (I : Inv X pins σ H s) (k : Kp T.H0 H) : ∀ {ds : List Da} {vs : List V} {its : List Value} {kvs : List (List Key × Da)}, Rps X.K T.H0 vs ds → Vals vs its → prsD ds = some kvs →
    ∃ (kv : List (List Key × V)) (Ps : List Addr) (xs : List (List Key × Addr × Value)), its = Ps.map Value.ref ∧ KT H kv xs ∧ RpT X.K T.H0 kv kvs ∧ xs.length = Ps.length ∧ ∀ (j : Nat) (x : List Key × Addr × Value), xs[j]? = some x → ∃ p, Ps[j]? = some p ∧ s.heap.IsTuple p #[.ref x.2.1, x.2.2]
  | [], _, _, _, .nil, .nil, e => by
    cases e
    exact ⟨[], [], [], rfl, .nil, .nil, rfl, fun j x e => by simp at e⟩
  | d :: r, _, _, kvs, .cons rp rps, .cons rv rvs, e => by
    unfold prsD at e
    split at e
    · rename_i e0; cases e0
    · rename_i ks d' r' e0
      cases e0
      cases h1 : keyDs ks with
      | none => rw [h1] at e; simp at e
      | some kk =>
        cases h2 : prsD r with
        | none => rw [h1, h2] at e; simp at e
        | some rest =>
          rw [h1, h2] at e
          have e : (kk, d') :: rest = kvs := Option.some.inj e
          subst e
          obtain ⟨kv, Ps, xs, a1, a2, a3, a4, a5⟩ := prs_of I k rps rvs h2
          cases rp with
          | tup hp rp =>
            rename_i p ws
            cases rp with
            | cons rk rp =>
              cases rp with
              | cons rd rp =>
                cases rp
                rename_i wk wd
                cases rk with
                | tup hq rq =>
                  rename_i q qs
                  obtain ⟨its2, rv2, ht, _⟩ := I.tuple (SqT.of (K := X.K) (k _ _ hp))
                  obtain ⟨u, y, ei, ru, ry⟩ := vals2 rv2
                  subst ei
                  cases ru
                  cases rv
                  refine ⟨(kk, wd) :: kv, p :: Ps, (kk, q, y) :: xs, by rw [a1]; rfl, .cons ⟨rfl, by rw [← keyDs_v rq h1]; exact k _ _ hq, ry⟩ a2, .cons rd a3, by rw [List.length_cons, List.length_cons, a4], fun j x e => ?_⟩
                  cases j with
                  | zero =>
                    have e' : (kk, q, y) = x := Option.some.inj e
                    subst e'
                    exact ⟨p, rfl, ht⟩
                  | succ j =>
                    obtain ⟨b, e1, e2⟩ := a5 j x (by simpa using e)
                    exact ⟨b, by simpa using e1, e2⟩
    · cases e
theorem refs_get {Ps : List Addr} {j : Nat} {p : Addr} (h : Ps[j]? = some p) : (Ps.map Value.ref).toArray[j]? = some (.ref p) := by simp [h]
section
variable {X : Cx} {rs : List Res} {Q : EQ} {r1 : Rv}
theorem cv_dictT (hc : X.calm = true) (hu : Un X) {ds : List Da} {kvs : List (List Key × Da)} (w : Vw rs r1 (.lst ds)) (hp : prsD ds = some kvs) (hl : ds.length ≤ 100000) (q : Q (.sh (.dT (mergeD [] kvs))) rs) : CV X (.type "dict") [r1] rs Q :=
  ⟨fun T H vs R a pins s σ us I r => by
    obtain ⟨v, rfl, p⟩ := rp1 a
    obtain ⟨ad, ws, e, hs, rp⟩ := w.lstv' R p
    subst e
    cases r with
    | cons r0 r1 =>
      cases r1
      cases r0
      obtain ⟨its, rv, pl, hz⟩ := I.list (SqL.of hs)
      obtain ⟨kv, Ps, xs, ei, kt, rt, xl, hx⟩ := prs_of I R.h0 rp rv hp
      obtain ⟨o, n, ho, hcl, hd, hdat⟩ := pl
      have hlen : xs.length ≤ 100000 := by
        have h1 := rv.length; have h2 := rp.len; rw [ei, List.length_map] at h1; omega
      have kvl : kv.length = xs.length := Paired.length kt
      let pv : List (Value × Value) := xs.map fun x => (.ref x.2.1, x.2.2)
      have pvl : pv.length = xs.length := List.length_map _
      have PA := PySem.PairArg.list (prog := X.prog) (w := X.w) ad its.toArray (fun j => Ps.getD j 0) pv
      have itl : its.length = xs.length := by rw [ei, List.length_map, xl]
      have lt : ∀ x ∈ xs, H x.2.1 = some (.tup (x.1.map kV)) := by
        have all : ∀ {l : List (List Key × V)} {m : List (List Key × Addr × Value)}, KT H l m → ∀ x ∈ m, H x.2.1 = some (.tup (x.1.map kV)) := by
          intro l m q
          induction q with
          | nil => intro x hx; exact nomatch hx
          | @cons p q ps qs hq t ih =>
            intro x hx
            rcases List.mem_cons.mp hx with e | hx
            · subst e; rw [← hq.1]; exact hq.2.1
            · exact ih x hx
        exact all kt
      refine PySem.call_dict_pairsH (knd := PySem.tupleKind (mixKind X.prog X.w)) (ps := xs) PA (I.ok.hd hc) (show X.A.in1.in1.units < cLine from by simp [Around.in1]; omega) ⟨⟨o, n, ho, hcl, hd, hdat⟩, by rw [List.size_toArray, itl, pvl], fun j k v hj => ?_⟩ ⟨by rw [pvl], fun i key v hr => ?_⟩ (fun h' hk x hx' => ?_) (by rw [pvl]; exact Nat.le_trans hlen (by decide)) fun h' tk hd' hk => ?_
      · rw [List.getElem?_map] at hj
        obtain ⟨x, h1, h2⟩ := Option.map_eq_some_iff.mp hj
        obtain ⟨p', h3, h4⟩ := hx j x h1
        cases h2
        have gd : Ps.getD j 0 = p' := by rw [List.getD_eq_getElem?_getD, h3]; rfl
        show its.toArray[j]? = some (.ref (Ps.getD j 0)) ∧ PySem.PairAt s.heap (Ps.getD j 0) _ _
        rw [gd, ei]
        exact ⟨refs_get h3, .inl h4⟩
      · have hr : (xs.map fun x => (Value.ref x.2.1, x.2.2))[i]? = some (key, v) := hr
        rw [List.getElem?_map] at hr
        obtain ⟨x, h1, h2⟩ := Option.map_eq_some_iff.mp hr
        cases h2
        exact ⟨x.1, x.2.1, h1, rfl⟩
      · obtain ⟨o', a1, a2, a3, a4⟩ := key_of I.hok (lt x hx')
        exact ⟨o', a1, a2, hk _ _ (Nat.ne_of_lt (Heap.lt_size a3)) (by simp) a3, a4⟩
      · have hm : (s.heap.objs.size == sysModules) = false := beq_eq_false_iff_ne.mpr (Nat.ne_of_gt I.big)
        have fresh : H s.heap.objs.size = none := I.hok.fresh (Nat.le_refl _)
        have ml : (mergeT [] kv).length ≤ sizeLine := Nat.le_trans (mergeT_len kv []) (by rw [List.length_nil, Nat.zero_add, kvl]; exact Nat.le_trans hlen (by decide))
        have kt2 : KT H (mergeT [] kv) (PySem.storedAllH [] xs) := mergeT_kt kt .nil
        obtain ⟨q1, es, ep, hq, h2, h3, h4, h5, h6⟩ := hd'
        obtain ⟨R2, l2⟩ := R.share (o := .dT (mergeT [] kv)) fresh
        refine ⟨.ref s.heap.objs.size, upd H s.heap.objs.size (.dT (mergeT [] kv)), I.laid (t' := tk) (fun b o e => hk b o (by simp) e) (Nat.le_refl _) ⟨ml, hm, _, kt2.keeps fun c ys ec => ?_, q1, es, ep, hq, h2, h3, h4, h6⟩, rfl, ⟨_, rs, .sh (.dT _), l2, R2, .dT upd_same ((mergeT_rp rt .nil).mono l2.h0), q⟩⟩
        rw [upd_ne (ne_of_none ec fresh)]; exact ec⟩
theorem mergeD_nodup : ∀ {more kvs : List (List Key × Da)}, ((kvs ++ more).map (·.1)).Nodup → mergeD kvs more = kvs ++ more
  | [], kvs, _ => by simp [mergeD]
  | p :: more, kvs, h => by
    have hv : valD kvs p.1 = none := by
      cases e : valD kvs p.1 with
      | none => rfl
      | some d =>
        have h1 : (kvs.any fun kv => decide (kv.1 = p.1)) = true := by rw [valD_any, e]; rfl
        obtain ⟨q, hq, e2⟩ := List.any_eq_true.mp h1
        have e2 : q.1 = p.1 := of_decide_eq_true e2
        rw [List.map_append, List.nodup_append] at h
        exact absurd e2 (h.2.2 q.1 (List.mem_map.mpr ⟨q, hq, rfl⟩) p.1 (by simp))
    show mergeD (putD kvs p.1 p.2) more = _
    rw [putD_new hv, mergeD_nodup (by rw [List.append_assoc]; exact h), List.append_assoc]; rfl
/-! ## list(d) -/
def kD : Key → Da
  | .inl i => .int i | .inr x => .str x
theorem rps_keys {K : PySem.W.Frag} {H : Hp} : ∀ ks : List Key, Rps K H (ks.map kV) (ks.map kD)
  | [] => .nil
  | .inl i :: r => .cons (.int i) (rps_keys r)
  | .inr x :: r => .cons (.str x) (rps_keys r)
theorem keysL {K : PySem.W.Frag} {T : Tw} {H : Hp} (tu : ∀ a xs, H a = some (.tup xs) → T.H0 a = some (.tup xs)) : ∀ {kv : List (List Key × V)} {kd : List (List Key × Da)} {bs : List Addr}, RpT K T.H0 kv kd → IsKeys H kv bs → Rps K T.H0 (bs.map V.ref) (kd.map fun p => .tup (p.1.map kD))
  | _, _, _, .nil, .nil => .nil
  | _, _, _, .cons r t, .cons h q => .cons (.tup (tu _ _ h) (rps_keys _)) (keysL tu t q)
theorem cv_listT (hc : X.calm = true) {kvs : List (List Key × Da)} (w : Vw rs r1 (.dT kvs)) (q : Q (.sh (.lst (kvs.map fun p => .tup (p.1.map kD)))) rs) : CV X (.type "list") [r1] rs Q :=
  cv_of (call_list_dT hc) fun T H vs R pp => by
    obtain ⟨v, rfl, p⟩ := rp1 pp
    obtain ⟨a, kv, e, hd, rt⟩ := w.dTv R p
    subst e
    refine ⟨a, kv, rfl, .inl hd, fun p bs hp hk => ?_⟩
    have rk := keysL R.tu rt hk
    obtain ⟨R2, l2⟩ := R.share (o := .lst (bs.map V.ref)) hp
    exact ⟨_, rs, .sh (.lst _), l2, R2, .lst upd_same (rk.mono l2.h0), q⟩
theorem cv_listTM (hc : X.calm = true) {kvs : List (List Key × Da)} (w : Vw rs r1 (.dT kvs)) (q : Q (.rf rs.length) (rs ++ [.lst (kvs.map fun p => .tup (p.1.map kD))])) : CV X (.type "list") [r1] rs Q :=
  cv_of (call_list_dT hc) fun T H vs R pp => by
    obtain ⟨v, rfl, p⟩ := rp1 pp
    obtain ⟨a, kv, e, hd, rt⟩ := w.dTv R p
    subst e
    refine ⟨a, kv, rfl, .inl hd, fun p bs hp hk => ?_⟩
    have rk := keysL R.tu rt hk
    exact ⟨_, _, .rf rs.length, T.le_more p, make_lst R hp rk, at_more R p, q⟩
/-- list(x), a new one of ours | that stays -/
theorem cv_listM {ds : List Da} (w : VwSeq rs r1 ds) (q : Q (.rf rs.length) (rs ++ [.lst ds])) : CV X (.type "list") [r1] rs Q :=
  cv_of call_list_of fun T H vs R pp => by
    obtain ⟨v, rfl, p⟩ := rp1 pp
    obtain ⟨a, ws, e, hs, rp⟩ := w.rp0 R p
    exact ⟨a, ws, by rw [e], hs, fun l hl => ⟨_, _, .rf rs.length, T.le_more l, make_lst R hl rp, at_more R l, q⟩⟩
end
end DL

set_option Elab.async false
set_option linter.all false
set_option maxRecDepth 100000
set_option maxHeartbeats 4000000
namespace DL
open PySem PySem.Spec L2
open PyProof.Rows hiding St
/-! ## a text several times -/
def repS (x : Str) (n : Nat) : Str := ⟨(List.replicate n x.cps).foldl (· ++ ·) #[]⟩
theorem foldl_size : ∀ (l : List (Array Nat)) (a : Array Nat), (l.foldl (· ++ ·) a).size = a.size + (l.map (·.size)).sum
  | [], a => by simp
  | x :: l, a => by rw [List.foldl_cons, foldl_size l (a ++ x), Array.size_append, List.map_cons, List.sum_cons]; omega
theorem sum_rep (k : Nat) : ∀ n : Nat, (List.replicate n k).sum = n * k
  | 0 => by simp
  | n + 1 => by rw [List.replicate_succ, List.sum_cons, sum_rep k n, Nat.succ_mul]; omega
theorem repS_len (x : Str) (n : Nat) : (repS x n).length = n * x.length := by
  show ((List.replicate n x.cps).foldl (· ++ ·) #[]).size = _
  rw [foldl_size, List.map_replicate, sum_rep]
  show 0 + n * x.cps.size = n * x.cps.size
  omega
theorem empty_of_len {x : Str} (h : x.length = 0) : x = ⟨#[]⟩ := by
  obtain ⟨a⟩ := x
  have : a.size = 0 := h
  rw [Array.size_eq_zero_iff] at this
  rw [this]
section
variable {X : Cx} {sl : Sl} {rs : List Res} {Q : EQ} {k : Nat}
theorem bv_repS {x : Str} {n : Nat} (h0 : 1 ≤ n) (h1 : n ≤ 1000) (hl : x.length ≤ 1000) (q : Q (.sh (.str (repS x n))) rs) : BV X (binaryOp .Mult) (.sh (.str x)) (.sh (.int (n : Int))) rs Q :=
  ⟨fun T H v1 v2 R p1 p2 pins s σ u1 u2 I i1 i2 => by
    rw [strOf p1] at i1
    rw [intOf p2] at i2
    obtain ⟨t, rfl⟩ := i1
    obtain ⟨u, rfl⟩ := i2
    have fin : ∀ (s' : Shared) (t' : Tok) (y : Str), y = repS x n → L2.Inv X pins σ H s' → EP X pins σ (EPost X.K T Q) (.str y t') s' := fun s' t' y e I' => ⟨.str (repS x n), H, I', ⟨t', by rw [e]⟩, epost R (r := .sh (.str _)) (.str _) q⟩
    have hm : x.length * n ≤ 1000000 := Nat.le_trans (Nat.mul_le_mul hl h1) (by decide)
    refine PySem.P.mul_str (by rw [decide_eq_false (by omega), decide_eq_false (by omega)]; rfl) (fun _ _ => ?_) (fun _ _ => ?_) ?_
    · have h3 : ((2 ^ 63 - 1 : Int)) / (n : Int) ≥ (2 ^ 63 - 1) / 1000 := by
        have : (1000 : Int) * ((2 ^ 63 - 1) / 1000) ≤ 2 ^ 63 - 1 := Int.mul_ediv_self_le (by decide)
        exact (Int.le_ediv_iff_mul_le (by omega)).mpr (by
          have e : ((2 ^ 63 - 1) / 1000 : Int) * (n : Int) ≤ ((2 ^ 63 - 1) / 1000) * 1000 := Int.mul_le_mul_of_nonneg_left (by omega) (by decide)
          omega)
      have h4 : ((2 ^ 63 - 1 : Int)) / 1000 > 1000 := by decide
      omega
    · show decide (x.length * ((n : Int)).toNat > sizeLine) = false
      rw [Int.toNat_natCast]
      exact decide_eq_false (by have : (1000000 : Nat) ≤ sizeLine := by decide
                                omega)
    · rw [if_neg (by omega)]
      by_cases hc : ((n : Int) == 1 || x.length == 0) = true
      · rw [if_pos hc]
        refine fin _ _ _ ?_ I
        rcases Bool.or_eq_true_iff.mp hc with h | h
        · have : n = 1 := by have := beq_iff_eq.mp h; omega
          subst this
          obtain ⟨a⟩ := x
          show _ = (⟨#[] ++ a⟩ : Str)
          rw [Array.empty_append]
        · have e := empty_of_len (beq_iff_eq.mp h)
          exact e.trans (empty_of_len (by rw [repS_len, e]; rfl)).symm
      · rw [if_neg hc]
        refine ⟨?_, fin _ _ _ ?_ (I.tok _)⟩
        · show (⟨(List.replicate ((n : Int)).toNat x.cps).foldl (· ++ ·) #[]⟩ : Str).length ≤ sizeLine
          rw [Int.toNat_natCast]
          show (repS x n).length ≤ sizeLine
          rw [repS_len, Nat.mul_comm]
          exact Nat.le_trans hm (by decide)
        · show (⟨(List.replicate ((n : Int)).toNat x.cps).foldl (· ++ ·) #[]⟩ : Str) = _
          rw [Int.toNat_natCast]; rfl⟩
theorem gh_tray {K : PySem.W.Frag} {m m' : Nat} (h : rs[k]? = some (.tray 0 m)) (hm : m ≤ m') : Gh K rs (rs.set k (.tray 0 m')) := fun T H R => ⟨T, .refl T, by rw [List.length_set]; exact R.n, R.h0, R.fr, R.dj, R.df, fun j r e => by
  by_cases hj : k = j
  · subst hj
    rw [List.getElem?_set_self (List.getElem?_eq_some_iff.mp h).1] at e
    cases e
    obtain ⟨h1, g, gs, n, f, u, h2, h3, h4, h5, h6, h7, h8, h9, h10⟩ := R.rs _ _ h
    exact ⟨h1, g, gs, n, f, u, h2, h3, h4, h5, h6, h7, h8, h9, by omega⟩
  · rw [List.getElem?_set_ne hj] at e; exact R.rs j r e, R.tu⟩
end
theorem tw_is {X : Cx} {sl : Sl} {e : Expr} {rs : List Res} {Q : TQ} {B : Bool} (h : TW X sl e rs fun b rs' => b = B ∧ rs' = rs) (q : Q B rs) : TW X sl e rs Q := ⟨fun T σ H a b => (h.go T σ H a b).mono fun v H' ⟨T', rs', l, R', e1, e2⟩ => ⟨T', rs', l, R', by rw [e1, e2]; exact q⟩⟩
/-- a tuple of texts in the written part -/
theorem glTS {K : PySem.W.Frag} {mg : Str → Option Value} {x : Str} {a : Addr} {o : Obj} {its : Array Value} {n : Nat} {ys : List Str} (h : mg x = some (.ref a)) (l : K.lookup a = some o) (hc : o.cls = .type "tuple") (hd : o.data = .seq its n) (hz : its.size ≤ sizeLine) (hv : Vals (ys.map V.str) its.toList) : GlD K mg x (.tupK (ys.map Da.str)) :=
  ⟨_, .ref a, h, rfl, fun H => .tupK (.inr ⟨o, its, n, l, hc, hd, hz, hv⟩) (Rps.ofStrs ys)⟩
theorem cutS_len {z : Str} {n : Nat} (h : n ≤ z.length) : (cutS z none (some (n : Int))).length = n := by
  show (cutS z none (some (n : Int))).cps.size = n
  unfold cutS
  rw [HT.sIx_none, HT.sIx_nat, List.size_toArray, List.length_take, List.length_drop]
  have : z.cps.toList.length = z.length := Array.length_toList
  omega
end DL

set_option Elab.async false
set_option linter.all false
set_option maxRecDepth 100000
set_option maxHeartbeats 4000000
namespace DL
open PySem PySem.Spec L2
/-! ## boards, standings and walks, in plain Lean -/
structure Bd where
  a : Str
  b : Str
  rows : List (Str × Str × Str)
abbrev RowT := Str × Str × Str
def rowD (r : RowT) : Da := .tup [.str r.1, .str r.2.1, .str r.2.2]
def rowsD (rows : List RowT) : Da := .lst (rows.map rowD)
def kvR (rows : List RowT) : List (List Key × Da) := rows.map fun r => ([.inr r.1, .inr r.2.1], .str r.2.2)
def lookR (rows : List RowT) (x y : Str) : Str := ((rows.find? fun r => decide (r.1 = x ∧ r.2.1 = y)).map (·.2.2)).getD "other"
theorem valD_kvR (x y : Str) : ∀ rows : List RowT, valD (kvR rows) [.inr x, .inr y] = ((rows.find? fun r => decide (r.1 = x ∧ r.2.1 = y)).map fun r => Da.str r.2.2)
  | [] => rfl
  | r :: rows => by
    show valD (([Sum.inr r.1, Sum.inr r.2.1], Da.str r.2.2) :: kvR rows) _ = _
    by_cases h : r.1 = x ∧ r.2.1 = y
    · rw [valD_pos (by rw [h.1, h.2]), List.find?_cons, decide_eq_true h]; rfl
    · rw [valD_neg (by intro z; simp at z; exact h z), List.find?_cons, decide_eq_false h]
      exact valD_kvR x y rows
theorem look_kvR (rows : List RowT) (x y : Str) : (valD (kvR rows) [.inr x, .inr y]).getD (.str "other") = .str (lookR rows x y) := by
  rw [valD_kvR]; unfold lookR
  cases rows.find? fun r => decide (r.1 = x ∧ r.2.1 = y) <;> rfl
structure RowsOk (rows : List RowT) : Prop where
  nd : (rows.map fun r => (r.1, r.2.1)).Nodup
  ws : ∀ r ∈ rows, r.2.2 = "first" ∨ r.2.2 = "second" ∨ r.2.2 = "other"
  len : rows.length ≤ 1000
structure Bd.ok (bd : Bd) : Prop where
  a1 : 1 ≤ bd.a.length
  a2 : bd.a.length ≤ 200
  b1 : 1 ≤ bd.b.length
  b2 : bd.b.length ≤ 200
  rows : RowsOk bd.rows
theorem kvR_nodup {rows : List RowT} (h : (rows.map fun r => (r.1, r.2.1)).Nodup) : ((kvR rows).map (·.1)).Nodup := by
  unfold kvR
  rw [List.map_map]
  have e : ((fun x : List Key × Da => x.1) ∘ fun r : RowT => ([Sum.inr r.1, Sum.inr r.2.1], Da.str r.2.2)) = (fun p : Str × Str => [Sum.inr p.1, Sum.inr p.2]) ∘ fun r : RowT => (r.1, r.2.1) := rfl
  rw [e, ← List.map_map]
  exact List.Pairwise.map _ (fun p q hne z => hne (by simp at z; exact Prod.ext z.1 z.2)) h
theorem kvR_take (rows : List RowT) (k : Nat) : (kvR rows).take k = kvR (rows.take k) := by unfold kvR; rw [List.map_take]
theorem valD_none {kvs : List (List Key × Da)} {k : List Key} (h : k ∉ kvs.map (·.1)) : valD kvs k = none := by
  cases e : valD kvs k with
  | none => rfl
  | some d =>
    have h1 : (kvs.any fun kv => decide (kv.1 = k)) = true := by rw [valD_any, e]; rfl
    obtain ⟨q, hq, e2⟩ := List.any_eq_true.mp h1
    exact absurd (List.mem_map.mpr ⟨q, hq, of_decide_eq_true e2⟩) h
theorem prsD_rows : ∀ rows : List RowT, prsD (rows.map fun r => .tup [.tup [.str r.1, .str r.2.1], .str r.2.2]) = some (kvR rows)
  | [] => rfl
  | r :: rows => by
    rw [List.map_cons]
    unfold prsD
    rw [prsD_rows rows]
    rfl
def chr (x : Str) (i : Nat) : Str := match x.cps.toList[i]? with
  | some c => ⟨#[c]⟩
  | none => ⟨#[]⟩
theorem chr_at {x : Str} {i : Nat} (h : i < x.length) : ∃ c, atI x.cps.toList (i : Int) = some c ∧ chr x i = ⟨#[c]⟩ := by
  have h2 : i < x.cps.toList.length := by rw [Array.length_toList]; exact h
  exact ⟨x.cps.toList[i], atI_nat (List.getElem?_eq_getElem h2), by unfold chr; rw [List.getElem?_eq_getElem h2]⟩
def Bd.wd (bd : Bd) (i j : Nat) : Str := lookR bd.rows (chr bd.a i) (chr bd.b j)
structure Sd where
  i : Nat
  j : Nat
  f : Bool
  deriving DecidableEq
def lastT (f : Bool) : Str := if f then "first" else "second"
theorem lastT_inj {f g : Bool} (h : lastT f = lastT g) : f = g := by
  cases f <;> cases g <;> first | rfl | exact absurd h (by decide)
abbrev Sd.da (s : Sd) : Da := .tup [.int s.i, .int s.j, .str (lastT s.f)]
def Sd.key (s : Sd) : List Key := [.inl s.i, .inl s.j, .inr (lastT s.f)]
theorem Sd.key_inj {s t : Sd} (h : s.key = t.key) : s = t := by
  obtain ⟨i, j, f⟩ := s
  obtain ⟨i', j', f'⟩ := t
  unfold Sd.key at h
  simp at h
  obtain ⟨h1, h2, h3⟩ := h
  have h3 := lastT_inj h3
  subst h3
  have h1 : (i : Int) = i' := h1
  have h2 : (j : Int) = j' := h2
  rw [Int.ofNat_inj.mp h1, Int.ofNat_inj.mp h2]
def Sd.ok (bd : Bd) (s : Sd) : Prop := s.i < bd.a.length ∧ s.j < bd.b.length
/-- the first reader steps -/
def Bd.fst (bd : Bd) (s : Sd) : Bool := decide (bd.wd s.i s.j = "first") || (decide (bd.wd s.i s.j = "other") && !s.f)
def Bd.tick (bd : Bd) (s : Sd) : Sd := if bd.fst s = true then ⟨(s.i + 1) % bd.a.length, s.j, true⟩ else ⟨s.i, (s.j + 1) % bd.b.length, false⟩
theorem Bd.tick_f (bd : Bd) (s : Sd) : (bd.tick s).f = bd.fst s := by
  unfold Bd.tick; cases bd.fst s <;> rfl
theorem Bd.tick_ok {bd : Bd} {s : Sd} (h : bd.ok) (hs : s.ok bd) : (bd.tick s).ok bd := by
  unfold Bd.tick
  split
  · exact ⟨Nat.mod_lt _ (by have := h.a1; omega), hs.2⟩
  · exact ⟨hs.1, Nat.mod_lt _ (by have := h.b1; omega)⟩
def Bd.go (bd : Bd) (s : Sd) : Nat → Sd
  | 0 => s
  | t + 1 => bd.tick (bd.go s t)
theorem Bd.go_ok {bd : Bd} {s : Sd} (h : bd.ok) (hs : s.ok bd) : ∀ t, (bd.go s t).ok bd
  | 0 => hs
  | t + 1 => Bd.tick_ok h (Bd.go_ok h hs t)
/-- the first n standings are apart -/
def Bd.apart (bd : Bd) (s : Sd) (n : Nat) : Prop := ∀ t u, t < n → u < n → bd.go s t = bd.go s u → t = u
structure Bd.Road (bd : Bd) (s : Sd) (n b : Nat) : Prop where
  lt : b < n
  back : bd.go s n = bd.go s b
  apart : bd.apart s n
theorem Bd.Road.uniq {bd : Bd} {s : Sd} {n b n' b' : Nat} (h : bd.Road s n b) (h' : bd.Road s n' b') : n = n' ∧ b = b' := by
  have e : n = n' := by
    rcases Nat.lt_trichotomy n n' with c | c | c
    · have := h'.apart n b c (Nat.lt_trans h.lt c) h.back
      have := h.lt; omega
    · exact c
    · have := h.apart n' b' c (Nat.lt_trans h'.lt c) h'.back
      have := h'.lt; omega
  subst e
  exact ⟨rfl, h.apart b b' h.lt h'.lt (h.back.symm.trans h'.back)⟩
/-! ### few are apart -/
theorem nodup_le : ∀ (N : Nat) (l : List Nat), l.Nodup → (∀ x ∈ l, x < N) → l.length ≤ N
  | 0, l, _, h => by
    cases l with
    | nil => exact Nat.le_refl _
    | cons x l => exact absurd (h x List.mem_cons_self) (Nat.not_lt_zero _)
  | N + 1, l, hn, h => by
    have h1 := nodup_le N (l.filter fun x => decide (x ≠ N)) (hn.filter _) fun x hx => by
      obtain ⟨h1, h2⟩ := List.mem_filter.mp hx
      have := h x h1
      have := of_decide_eq_true h2
      omega
    have h2 : l.length ≤ (l.filter fun x => decide (x ≠ N)).length + 1 := by
      clear h h1
      induction l with
      | nil => simp
      | cons x l ih =>
        have hn' := List.nodup_cons.mp hn
        by_cases e : x = N
        · subst e
          have : (l.filter fun y => decide (y ≠ x)) = l := List.filter_eq_self.mpr fun y hy => decide_eq_true fun z => hn'.1 (z ▸ hy)
          rw [List.filter_cons, if_neg (by simp), this]
          simp
        · rw [List.filter_cons, if_pos (by simpa using e), List.length_cons, List.length_cons]
          have := ih hn'.2
          omega
    omega
def Sd.enc (bd : Bd) (s : Sd) : Nat := (s.i * bd.b.length + s.j) * 2 + (if s.f then 1 else 0)
theorem Sd.enc_lt {bd : Bd} {s : Sd} (h : s.ok bd) : s.enc bd < bd.a.length * bd.b.length * 2 := by
  have h1 : s.i * bd.b.length + s.j < bd.a.length * bd.b.length := by
    have : (s.i + 1) * bd.b.length ≤ bd.a.length * bd.b.length := Nat.mul_le_mul_right _ h.1
    rw [Nat.succ_mul] at this
    have := h.2; omega
  unfold Sd.enc
  split <;> omega
theorem Sd.enc_inj {bd : Bd} {s t : Sd} (hs : s.ok bd) (ht : t.ok bd) (h : s.enc bd = t.enc bd) : s = t := by
  obtain ⟨i, j, f⟩ := s
  obtain ⟨i', j', f'⟩ := t
  unfold Sd.enc at h
  have hj : j < bd.b.length := hs.2
  have hj' : j' < bd.b.length := ht.2
  have hf : f = f' := by
    cases f <;> cases f' <;> first | rfl | (simp at h; omega)
  subst hf
  have e : i * bd.b.length + j = i' * bd.b.length + j' := by
    have h : (i * bd.b.length + j) * 2 + (if f then 1 else 0) = (i' * bd.b.length + j') * 2 + (if f then 1 else 0) := h
    omega
  have e1 : i = i' := by
    have q1 : (i * bd.b.length + j) / bd.b.length = i := by rw [Nat.mul_comm, Nat.mul_add_div (by omega), Nat.div_eq_of_lt hj]; omega
    have q2 : (i' * bd.b.length + j') / bd.b.length = i' := by rw [Nat.mul_comm, Nat.mul_add_div (by omega), Nat.div_eq_of_lt hj']; omega
    rw [← q1, e, q2]
  subst e1
  have : j = j' := by omega
  rw [this]
theorem Bd.apart_le {bd : Bd} {s : Sd} {n : Nat} (h : bd.ok) (hs : s.ok bd) (ha : bd.apart s n) : n ≤ bd.a.length * bd.b.length * 2 := by
  have := nodup_le (bd.a.length * bd.b.length * 2) ((List.range n).map fun t => (bd.go s t).enc bd) (by
    refine List.Pairwise.map _ (R := fun t u => t ≠ u ∧ t < n ∧ u < n) (fun t u ⟨hne, h1, h2⟩ z => hne (ha t u h1 h2 (Sd.enc_inj (Bd.go_ok h hs t) (Bd.go_ok h hs u) z))) ?_
    rw [List.pairwise_iff_getElem]
    intro x y hx hy hxy
    rw [List.length_range] at hx hy
    rw [List.getElem_range, List.getElem_range]
    exact ⟨by omega, hx, hy⟩) fun x hx => by
      obtain ⟨t, _, e⟩ := List.mem_map.mp hx
      rw [← e]; exact Sd.enc_lt (Bd.go_ok h hs t)
  rwa [List.length_map, List.length_range] at this
theorem Bd.ok.size {bd : Bd} (h : bd.ok) : bd.a.length * bd.b.length * 2 ≤ 80000 := by
  have := Nat.mul_le_mul h.a2 h.b2
  omega
/-- the road's dict -/
def kvG (bd : Bd) (s : Sd) (t : Nat) : List (List Key × Da) := (List.range t).map fun u => ((bd.go s u).key, .int (u : Nat))
theorem kvG_len {bd : Bd} {s : Sd} {t : Nat} : (kvG bd s t).length = t := by unfold kvG; rw [List.length_map, List.length_range]
theorem kvG_succ {bd : Bd} {s : Sd} {t : Nat} : kvG bd s (t + 1) = kvG bd s t ++ [((bd.go s t).key, .int (t : Nat))] := by unfold kvG; rw [List.range_succ, List.map_append]; rfl
theorem valD_kvG (bd : Bd) (s x : Sd) : ∀ t, (∃ u, u < t ∧ bd.go s u = x ∧ valD (kvG bd s t) x.key = some (.int (u : Nat))) ∨ ((∀ u, u < t → bd.go s u ≠ x) ∧ valD (kvG bd s t) x.key = none)
  | 0 => .inr ⟨fun u h => absurd h (Nat.not_lt_zero u), rfl⟩
  | t + 1 => by
    rcases valD_kvG bd s x t with ⟨u, h1, h2, h3⟩ | ⟨h1, h2⟩
    · refine .inl ⟨u, by omega, h2, ?_⟩
      rw [kvG_succ]
      have app : ∀ (l m : List (List Key × Da)) (k : List Key) (d : Da), valD l k = some d → valD (l ++ m) k = some d := by
        intro l m k d h
        unfold valD at h ⊢
        rw [List.find?_append]
        cases e : l.find? fun kv => decide (kv.1 = k) with
        | none => rw [e] at h; cases h
        | some p => rw [e] at h; rw [Option.some_or]; exact h
      exact app _ _ _ _ h3
    · by_cases e : bd.go s t = x
      · refine .inl ⟨t, Nat.lt_succ_self t, e, ?_⟩
        rw [kvG_succ, e, valD_snoc h2, if_pos rfl]
      · refine .inr ⟨fun u hu => ?_, ?_⟩
        · by_cases hut : u = t
          · subst hut; exact e
          · exact h1 u (by omega)
        · have hn : valD (kvG bd s t ++ [((bd.go s t).key, Da.int (t : Nat))]) x.key = none := by
            refine valD_none ?_
            rw [List.map_append, List.mem_append]
            rintro (h | h)
            · have : (kvG bd s t).any (fun kv => decide (kv.1 = x.key)) = true := by
                obtain ⟨p, hp, e2⟩ := List.mem_map.mp h
                exact List.any_eq_true.mpr ⟨p, hp, decide_eq_true e2⟩
              rw [valD_any, h2] at this; cases this
            · have : x.key = (bd.go s t).key := by simpa using h
              exact e (Sd.key_inj this).symm
          rw [kvG_succ]; exact hn
/-! ### steps -/
def Bd.line (bd : Bd) (s : Sd) (n : Nat) : List Sd := (List.range n).map (bd.go s)
def Bd.cnt (bd : Bd) (L : List Sd) (k : Nat) : Nat := (L.take k).countP bd.fst
theorem Bd.cnt_succ {bd : Bd} {L : List Sd} {k : Nat} {s : Sd} (h : L[k]? = some s) : bd.cnt L (k + 1) = bd.cnt L k + (if bd.fst s then 1 else 0) := by
  unfold Bd.cnt
  rw [List.take_add_one, h, List.countP_append]
  congr 1
  show List.countP _ [s] = _
  rw [List.countP_cons, List.countP_nil, Nat.zero_add]
def stepsD (bd : Bd) (L : List Sd) : Da := .lst ((List.range (L.length + 1)).map fun k => .int (bd.cnt L k : Nat))
theorem Bd.line_get {bd : Bd} {s : Sd} {n k : Nat} (h : k < n) : (bd.line s n)[k]? = some (bd.go s k) := by
  unfold Bd.line; rw [List.getElem?_map, List.getElem?_range h]; rfl
theorem Bd.line_len {bd : Bd} {s : Sd} {n : Nat} : (bd.line s n).length = n := by unfold Bd.line; rw [List.length_map, List.length_range]
theorem Bd.line_succ {bd : Bd} {s : Sd} {n : Nat} : bd.line s (n + 1) = bd.line s n ++ [bd.go s n] := by
  unfold Bd.line; rw [List.range_succ, List.map_append]; rfl
theorem Bd.line_take {bd : Bd} {s : Sd} {n k : Nat} (h : k ≤ n) : (bd.line s n).take k = bd.line s k := by
  unfold Bd.line; rw [← List.map_take, List.take_range, Nat.min_eq_left h]
/-- how often the first reader steps in k ticks -/
def Bd.F (bd : Bd) (s : Sd) (k : Nat) : Nat := (bd.line s k).countP bd.fst
theorem Bd.cnt_line {bd : Bd} {s : Sd} {n k : Nat} (h : k ≤ n) : bd.cnt (bd.line s n) k = bd.F s k := by
  unfold Bd.cnt Bd.F; rw [Bd.line_take h]
theorem Bd.F_succ {bd : Bd} {s : Sd} {k : Nat} : bd.F s (k + 1) = bd.F s k + (if bd.fst (bd.go s k) then 1 else 0) := by
  unfold Bd.F
  rw [Bd.line_succ, List.countP_append]
  congr 1
  rw [List.countP_cons, List.countP_nil, Nat.zero_add]
theorem Bd.F_le {bd : Bd} {s : Sd} : ∀ k, bd.F s k ≤ k
  | 0 => Nat.le_refl _
  | k + 1 => by rw [Bd.F_succ]; have := Bd.F_le (bd := bd) (s := s) k; split <;> omega
theorem kvG_keys {bd : Bd} {s : Sd} {n : Nat} : ((kvG bd s n).map fun p => Da.tup (p.1.map kD)) = (bd.line s n).map Sd.da := by
  unfold kvG Bd.line
  rw [List.map_map, List.map_map]
  rfl
theorem Bd.line_ok {bd : Bd} {s : Sd} {n : Nat} (h : bd.ok) (hs : s.ok bd) : ∀ x ∈ bd.line s n, x.ok bd := fun x hx => by
  obtain ⟨t, _, e⟩ := List.mem_map.mp hx
  rw [← e]; exact Bd.go_ok h hs t
theorem stepsD_get {bd : Bd} {L : List Sd} {k : Nat} (h : k ≤ L.length) : atI ((List.range (L.length + 1)).map fun k => Da.int (bd.cnt L k : Nat)) (k : Int) = some (.int (bd.cnt L k : Nat)) := by
  refine atI_nat ?_
  rw [List.getElem?_map, List.getElem?_range (by omega)]; rfl
theorem Bd.F_mono {bd : Bd} {s : Sd} : ∀ {k n : Nat}, k ≤ n → bd.F s k ≤ bd.F s n
  | k, 0, h => by rw [Nat.le_zero.mp h]; exact Nat.le_refl _
  | k, n + 1, h => by
    by_cases e : k = n + 1
    · rw [e]; exact Nat.le_refl _
    · have := Bd.F_mono (bd := bd) (s := s) (k := k) (n := n) (by omega)
      rw [Bd.F_succ]; omega
/-- told by a relation -/
def ctG {α : Type} (pre : α → Prop) (arg : α → List Da) (post : α → Da → Prop) : Ct := fun as rs Q => ∃ a, as = (arg a).map .sh ∧ rs = [] ∧ pre a ∧ ∀ d, post a d → Q (.sh d) []
theorem ctG_mono {α : Type} {pre : α → Prop} {arg : α → List Da} {post : α → Da → Prop} : Mono (ctG pre arg post) := fun as rs P Q k ⟨a, e1, e2, h, q⟩ => ⟨a, e1, e2, h, fun d hd => k _ _ (q d hd)⟩
theorem kc_G {α : Type} {pre : α → Prop} {arg : α → List Da} {post : α → Da → Prop} {rs : List Res} {as : List Rv} {Q : EQ} (a : α) (h : Shs rs as (arg a)) (hp : pre a) (q : ∀ d, post a d → Q (.sh d) rs) : Kc (ctG pre arg post) as rs Q :=
  .pure h ⟨a, rfl, rfl, hp, fun d hd => ⟨rfl, by rw [List.append_nil]; exact q d hd⟩⟩
/-- what go tells, by the road -/
def goD (bd : Bd) (s : Sd) (n b : Nat) (t : Nat) : Da :=
  if t < n then .tup [(bd.go s t).da, .int (bd.F s t), .int ((t : Int) - bd.F s t)]
  else .tup [(bd.go s (b + (t - b) % (n - b))).da, .int ((bd.F s (b + (t - b) % (n - b)) : Int) + (((t - b) / (n - b) : Nat) : Int) * ((bd.F s n : Int) - bd.F s b)), .int ((t : Int) - ((bd.F s (b + (t - b) % (n - b)) : Int) + (((t - b) / (n - b) : Nat) : Int) * ((bd.F s n : Int) - bd.F s b)))]
end DL

set_option Elab.async false
set_option linter.all false
set_option maxRecDepth 100000
set_option maxHeartbeats 4000000
namespace DL
open PySem PySem.Spec L2
open PyProof.Rows hiding St
section
variable {X : Cx} {sl : Sl} {rs : List Res} {R : Out} {a b c : Expr} {pos : Pos}
theorem rp3 {K : PySem.W.Frag} {T : Tw} {vs : List V} {r r' r'' : Rv} (h : RpVs K T vs [r, r', r'']) : ∃ u v w, vs = [u, v, w] ∧ RpV K T u r ∧ RpV K T v r' ∧ RpV K T w r'' := by
  cases h with | cons a b => cases b with | cons b c => cases c with | cons c d => cases d; exact ⟨_, _, _, rfl, a, b, c⟩
/-- a, b, c = x, y, z -/
theorem s_par3 (i j l : Nat) {x y z : Str} {px py pz pt : Pos} {kt k2 pt2} (h : AW X sl [a, b, c] rs fun as rs' => ∃ r1 r2 r3, as = [r1, r2, r3] ∧ R.nx (((sl.set i (some r1)).set j (some r2)).set l (some r3)) rs') (hN : X.N.Nodup) (hw : swappedStores [.Tuple [.Name x px, .Name y py, .Name z pz] kt pt] (.Tuple [a, b, c] k2 pt2) X.env = pure (some [x, y, z]) := by rfl) (hi : X.N[i]? = some x := by rfl) (hj : X.N[j]? = some y := by rfl) (hl : X.N[l]? = some z := by rfl) (hij : i ≠ j := by decide) (hil : i ≠ l := by decide) (hjl : j ≠ l := by decide)
    (hx : X.env.scope.names.lookup x = some .local := by rfl) (hy : X.env.scope.names.lookup y = some .local := by rfl) (hz : X.env.scope.names.lookup z = some .local := by rfl) (hc : X.calm = true := by rfl)
    (hs : swapsWithSole [.Tuple [.Name x px, .Name y py, .Name z pz] kt pt] (.Tuple [a, b, c] k2 pt2) pos.line X.env = pure false := by rfl) : S1 X sl (.Assign [.Tuple [.Name x px, .Name y py, .Name z pz] kt pt] (.Tuple [a, b, c] k2 pt2) pos) rs R :=
  s1_of (ps_par3 hc hN hi hj hl hij hil hjl hx hy hz pa_S hw hs) fun T σ H hR S => thenA h hR S fun T1 rs1 as vs H1 l R1 p ⟨r1, r2, r3, e, q⟩ => by
    subst e
    obtain ⟨u, v, w, e, p1, p2, p3⟩ := rp3 p
    exact ⟨u, v, w, e, T1, _, rs1, l, R1, (((S.le l).set _ p1).set _ p2).set _ p3, q⟩
end
theorem sle_k2 {a b : Option Rv} {t : Sl} : Sle (a :: b :: t) (a :: b :: List.replicate t.length none) := ⟨by simp, fun i r e => by
  match i, e with
  | 0, e => exact e
  | 1, e => exact e
  | i + 2, e =>
    have e : (List.replicate t.length (none : Option Rv))[i]? = some (some r) := e
    rw [List.getElem?_replicate] at e
    split at e <;> cases e⟩
theorem lt_k2 {d : Da} {n : Nat} : ∀ (i : Nat) (r : Rv), (some (Rv.sh d) :: some (Rv.rf 1) :: List.replicate n none)[i]? = some (some r) → Rv.lt 2 r := fun i r e => by
  match i, e with
  | 0, e => cases e; trivial
  | 1, e => cases e; exact (by decide : 1 < 2)
  | i + 2, e =>
    have e : (List.replicate n (none : Option Rv))[i]? = some (some r) := e
    rw [List.getElem?_replicate] at e
    split at e <;> cases e
/-! ## letters -/
def lett (x : Str) : Prop := ∀ c ∈ x.cps.toList, 97 ≤ c ∧ c ≤ 102
theorem lett_cut {x : Str} (h : lett x) (lo hi : Option Int) : lett (cutS x lo hi) := fun c hc => by
  unfold cutS at hc
  exact h c (List.mem_of_mem_drop (List.mem_of_mem_take hc))
theorem lett_app {x y : Str} (h : lett x) (h' : lett y) : lett (x ++ y) := fun c hc => by
  have e : (x ++ y).cps.toList = x.cps.toList ++ y.cps.toList := tl_app x y
  rw [e] at hc
  exact (List.mem_append.mp hc).elim (h c) (h' c)
theorem lett_one {x : Str} {c : Nat} (h : lett x) (hc : c ∈ x.cps.toList) : lett ⟨#[c]⟩ := fun d hd => by
  have : d = c := by simpa using hd
  rw [this]; exact h c hc
theorem foldl_mem : ∀ (l : List (Array Nat)) (a : Array Nat) (c : Nat), c ∈ (l.foldl (· ++ ·) a).toList → c ∈ a.toList ∨ ∃ x ∈ l, c ∈ x.toList
  | [], a, c, h => .inl h
  | x :: l, a, c, h => by
    rw [List.foldl_cons] at h
    rcases foldl_mem l (a ++ x) c h with h | ⟨y, hy, h⟩
    · rw [Array.toList_append] at h
      rcases List.mem_append.mp h with h | h
      · exact .inl h
      · exact .inr ⟨x, List.mem_cons_self, h⟩
    · exact .inr ⟨y, List.mem_cons_of_mem _ hy, h⟩
theorem lett_rep {x : Str} (h : lett x) (n : Nat) : lett (repS x n) := fun c hc => by
  rcases foldl_mem _ _ c hc with h1 | ⟨y, hy, h1⟩
  · simp at h1
  · rw [List.eq_of_mem_replicate hy] at h1
    exact h c h1
theorem lett_six : lett "abcdef" := by
  intro c hc
  have hc : c ∈ [97, 98, 99, 100, 101, 102] := hc
  simp at hc
  omega
theorem atI_mem {l : List Nat} {i : Int} {c : Nat} (h : atI l i = some c) : c ∈ l := by
  unfold atI at h
  cases e : ixN l.length i with
  | none => rw [e] at h; cases h
  | some k => rw [e] at h; exact List.mem_of_getElem? h
theorem atI_ex {l : List Nat} {r : Int} (h0 : 0 ≤ r) (h1 : r < l.length) : ∃ c, atI l r = some c ∧ c ∈ l := by
  have hl : r.toNat < l.length := by omega
  have e := atI_nat (List.getElem?_eq_getElem hl)
  rw [Int.toNat_of_nonneg h0] at e
  exact ⟨_, e, List.getElem_mem hl⟩
/-! ## rows, drawn -/
def sgn (k : Nat) : Str := ⟨#[97 + k]⟩
theorem sgn_inj {a b : Nat} (h : sgn a = sgn b) : a = b := by
  have h : (#[97 + a] : Array Nat) = #[97 + b] := congrArg Str.cps h
  have h := congrArg Array.toList h
  have h : [97 + a] = [97 + b] := h
  have := (List.cons.inj h).1
  omega
def isW (w : Str) : Prop := w = "first" ∨ w = "second" ∨ w = "other"
/-- rows, drawn up to the pair i, j -/
structure RowsTo (i j : Nat) (rows : List RowT) : Prop where
  nd : (rows.map fun r => (r.1, r.2.1)).Nodup
  ws : ∀ r ∈ rows, isW r.2.2
  at_ : ∀ r ∈ rows, ∃ a b, r.1 = sgn a ∧ r.2.1 = sgn b ∧ a < 6 ∧ b < 6 ∧ (a < i ∨ (a = i ∧ b < j))
  len : rows.length ≤ 6 * i + j
theorem RowsTo.nil : RowsTo 0 0 [] := ⟨List.nodup_nil, fun _ h => (nomatch h), fun _ h => (nomatch h), Nat.le_refl _⟩
theorem RowsTo.skip {i j : Nat} {rows : List RowT} (h : RowsTo i j rows) : RowsTo i (j + 1) rows := ⟨h.nd, h.ws, fun r hr => let ⟨a, b, e1, e2, h1, h2, h3⟩ := h.at_ r hr; ⟨a, b, e1, e2, h1, h2, by omega⟩, by have := h.len; omega⟩
theorem RowsTo.next {i : Nat} {rows : List RowT} (h : RowsTo i 6 rows) : RowsTo (i + 1) 0 rows := ⟨h.nd, h.ws, fun r hr => let ⟨a, b, e1, e2, h1, h2, h3⟩ := h.at_ r hr; ⟨a, b, e1, e2, h1, h2, by omega⟩, by have := h.len; omega⟩
def insAt (rows : List RowT) (k : Nat) (r : RowT) : List RowT := rows.take k ++ [r] ++ rows.drop k
theorem insAt_perm (rows : List RowT) (k : Nat) (r : RowT) : (insAt rows k r).Perm (r :: rows) := by
  unfold insAt
  have h1 : (rows.take k ++ [r] ++ rows.drop k).Perm ([r] ++ rows.take k ++ rows.drop k) := List.Perm.append_right _ List.perm_append_comm
  refine h1.trans ?_
  rw [List.append_assoc, List.take_append_drop]
  exact List.Perm.refl _
theorem insAt_map (rows : List RowT) (k : Nat) (r : RowT) : (insAt rows k r).map rowD = (rows.map rowD).take k ++ [rowD r] ++ (rows.map rowD).drop k := by
  unfold insAt
  rw [List.map_append, List.map_append, List.map_take, List.map_drop]; rfl
theorem RowsTo.ins {i j : Nat} {rows : List RowT} (h : RowsTo i j rows) (hi : i < 6) (hj : j < 6) (k : Nat) {w : Str} (hw : isW w) : RowsTo i (j + 1) (insAt rows k (sgn i, sgn j, w)) := by
  have p := insAt_perm rows k (sgn i, sgn j, w)
  refine ⟨?_, fun r hr => ?_, fun r hr => ?_, ?_⟩
  · rw [(p.map _).nodup_iff, List.map_cons, List.nodup_cons]
    refine ⟨fun hm => ?_, h.nd⟩
    obtain ⟨r, hr, e⟩ := List.mem_map.mp hm
    obtain ⟨a, b, e1, e2, _, _, h3⟩ := h.at_ r hr
    have e : (r.1, r.2.1) = (sgn i, sgn j) := e
    rw [e1, e2] at e
    have ea := sgn_inj (Prod.mk.inj e).1
    have eb := sgn_inj (Prod.mk.inj e).2
    omega
  · rcases List.mem_cons.mp (p.mem_iff.mp hr) with e | hr
    · rw [e]; exact hw
    · exact h.ws r hr
  · rcases List.mem_cons.mp (p.mem_iff.mp hr) with e | hr
    · rw [e]; exact ⟨i, j, rfl, rfl, hi, hj, .inr ⟨rfl, Nat.lt_succ_self j⟩⟩
    · obtain ⟨a, b, e1, e2, h1, h2, h3⟩ := h.at_ r hr
      exact ⟨a, b, e1, e2, h1, h2, by omega⟩
  · rw [p.length_eq, List.length_cons]
    have := h.len; omega
theorem RowsTo.ok {i j : Nat} {rows : List RowT} (h : RowsTo i j rows) (hl : 6 * i + j ≤ 1000) : RowsOk rows := ⟨h.nd, h.ws, Nat.le_trans h.len hl⟩
theorem goD_alk (bd : Bd) (s : Sd) (n b t : Nat) : alkD 3 (goD bd s n b t) = true := by
  unfold goD
  split <;> rfl
end DL

set_option Elab.async false
set_option linter.all false
set_option maxRecDepth 100000
set_option maxHeartbeats 4000000
namespace DL
open PySem PySem.Spec L2
/-! ## an order of keys -/
def ltK : Key → Key → Bool
  | .inl i, .inl j => decide (i < j)
  | .inr x, .inr y => decide (x.cps.toList < y.cps.toList)
  | .inl _, .inr _ => true
  | .inr _, .inl _ => false
theorem key_tl {x y : Str} (h : x.cps.toList = y.cps.toList) : x = y := ext_tl h
theorem ltK_irrefl (a : Key) : ltK a a = false := by
  cases a with
  | inl i => exact decide_eq_false (Int.lt_irrefl i)
  | inr x => exact decide_eq_false (List.lt_irrefl _)
theorem ltK_trans {a b c : Key} (h1 : ltK a b = true) (h2 : ltK b c = true) : ltK a c = true := by
  cases a <;> cases b <;> cases c <;> simp only [ltK, decide_eq_true_eq] at * <;> first | omega | exact List.lt_trans h1 h2 | contradiction | rfl
theorem ltK_tri (a b : Key) : ltK a b = true ∨ a = b ∨ ltK b a = true := by
  cases a with
  | inl i => cases b with
    | inl j =>
      rcases Int.lt_trichotomy i j with h | h | h
      · exact .inl (decide_eq_true h)
      · exact .inr (.inl (by rw [h]))
      · exact .inr (.inr (decide_eq_true h))
    | inr y => exact .inl rfl
  | inr x => cases b with
    | inl j => exact .inr (.inr rfl)
    | inr y =>
      by_cases h1 : x.cps.toList < y.cps.toList
      · exact .inl (decide_eq_true h1)
      · by_cases h2 : y.cps.toList < x.cps.toList
        · exact .inr (.inr (decide_eq_true h2))
        · exact .inr (.inl (congrArg Sum.inr (key_tl (List.le_antisymm (List.not_lt.mp h2) (List.not_lt.mp h1)))))
def lexK : List Key → List Key → Bool
  | [], [] => false
  | [], _ :: _ => true
  | _ :: _, [] => false
  | a :: as, b :: bs => if a = b then lexK as bs else ltK a b
theorem lexK_irrefl : ∀ a : List Key, lexK a a = false
  | [] => rfl
  | a :: as => by unfold lexK; rw [if_pos rfl]; exact lexK_irrefl as
theorem lexK_trans : ∀ {a b c : List Key}, lexK a b = true → lexK b c = true → lexK a c = true
  | [], [], _, h, _ => by cases h
  | [], _ :: _, [], _, h => by cases h
  | [], _ :: _, _ :: _, _, _ => rfl
  | _ :: _, [], _, h, _ => by cases h
  | _ :: _, _ :: _, [], _, h => by cases h
  | a :: as, b :: bs, c :: cs, h1, h2 => by
    unfold lexK at h1 h2 ⊢
    by_cases e1 : a = b
    · subst e1
      rw [if_pos rfl] at h1
      by_cases e2 : a = c
      · subst e2
        rw [if_pos rfl] at h2 ⊢
        exact lexK_trans h1 h2
      · rw [if_neg e2] at h2 ⊢
        exact h2
    · rw [if_neg e1] at h1
      by_cases e2 : b = c
      · subst e2
        rw [if_neg e1]; exact h1
      · rw [if_neg e2] at h2
        have h3 := ltK_trans h1 h2
        by_cases e3 : a = c
        · subst e3; rw [ltK_irrefl] at h3; cases h3
        · rw [if_neg e3]; exact h3
theorem lexK_tri : ∀ a b : List Key, lexK a b = true ∨ a = b ∨ lexK b a = true
  | [], [] => .inr (.inl rfl)
  | [], _ :: _ => .inl rfl
  | _ :: _, [] => .inr (.inr rfl)
  | a :: as, b :: bs => by
    unfold lexK
    by_cases e : a = b
    · subst e
      rw [if_pos rfl, if_pos rfl]
      rcases lexK_tri as bs with h | h | h
      · exact .inl h
      · exact .inr (.inl (by rw [h]))
      · exact .inr (.inr h)
    · rw [if_neg e, if_neg (fun z => e z.symm)]
      rcases ltK_tri a b with h | h | h
      · exact .inl h
      · exact absurd h e
      · exact .inr (.inr h)
theorem lexK_asym {a b : List Key} (h : lexK a b = true) : lexK b a = false := by
  cases e : lexK b a with
  | false => rfl
  | true => have := lexK_trans h e; rw [lexK_irrefl] at this; cases this
theorem lexK_le {x y z : List Key} (h1 : lexK y x = false) (h2 : lexK z y = false) : lexK z x = false := by
  cases e : lexK z x with
  | false => rfl
  | true =>
    rcases lexK_tri x y with h | h | h
    · have := lexK_trans e h; rw [h2] at this; cases this
    · subst h; rw [h2] at e; cases e
    · rw [h1] at h; cases h
theorem swo_K {α : Type} (k : α → List Key) : SrtO.Swo fun v u => lexK (k v) (k u) := ⟨fun x y h => lexK_asym h, fun x y z h1 h2 => lexK_le h1 h2⟩
theorem lexK_anti {x y : List Key} (h1 : lexK x y = false) (h2 : lexK y x = false) : x = y := by
  rcases lexK_tri x y with h | h | h
  · rw [h1] at h; cases h
  · exact h
  · rw [h2] at h; cases h
/-- in order -/
abbrev SrtK (l : List (List Key)) : Prop := l.Pairwise fun x y => lexK y x = false
theorem srtK_uniq : ∀ {l m : List (List Key)}, SrtK l → SrtK m → l.Perm m → l = m
  | [], m, _, _, h => (List.Perm.eq_nil h.symm).symm
  | x :: l, [], _, _, h => absurd h.length_eq (by simp)
  | x :: l, y :: m, hl, hm, h => by
    have hx : lexK x y = false := by
      rcases List.mem_cons.mp (h.mem_iff.mp (List.mem_cons_self (a := x) (l := l))) with e | hx
      · rw [e]; exact lexK_irrefl y
      · exact (List.pairwise_cons.mp hm).1 x hx
    have hy : lexK y x = false := by
      rcases List.mem_cons.mp (h.mem_iff.mpr (List.mem_cons_self (a := y) (l := m))) with e | hy
      · rw [e]; exact lexK_irrefl x
      · exact (List.pairwise_cons.mp hl).1 y hy
    have e := lexK_anti hx hy
    subst e
    rw [srtK_uniq (List.pairwise_cons.mp hl).2 (List.pairwise_cons.mp hm).2 h.cons_inv]
def insK (x : List Key) : List (List Key) → List (List Key)
  | [] => [x]
  | y :: l => if lexK y x = true then y :: insK x l else x :: y :: l
def sortK : List (List Key) → List (List Key)
  | [] => []
  | x :: l => insK x (sortK l)
theorem insK_perm (x : List Key) : ∀ l, (insK x l).Perm (x :: l)
  | [] => .refl _
  | y :: l => by
    unfold insK
    split
    · exact ((insK_perm x l).cons y).trans (List.Perm.swap x y l)
    · exact .refl _
theorem sortK_perm : ∀ l, (sortK l).Perm l
  | [] => .refl _
  | x :: l => (insK_perm x (sortK l)).trans ((sortK_perm l).cons x)
theorem insK_srt (x : List Key) : ∀ {l}, SrtK l → SrtK (insK x l)
  | [], _ => List.pairwise_singleton _ _
  | y :: l, h => by
    unfold insK
    have h1 := List.pairwise_cons.mp h
    split
    · rename_i hy
      refine List.pairwise_cons.mpr ⟨fun z hz => ?_, insK_srt x h1.2⟩
      rcases List.mem_cons.mp ((insK_perm x l).mem_iff.mp hz) with e | hz
      · rw [e]; exact lexK_asym hy
      · exact h1.1 z hz
    · rename_i hy
      have hy : lexK y x = false := by simpa using hy
      refine List.pairwise_cons.mpr ⟨fun z hz => ?_, h⟩
      rcases List.mem_cons.mp hz with e | hz
      · rw [e]; exact hy
      · exact lexK_le hy (h1.1 z hz)
theorem sortK_srt : ∀ l, SrtK (sortK l)
  | [] => List.Pairwise.nil
  | x :: l => insK_srt x (sortK_srt l)
theorem sortK_of {l m : List (List Key)} (h : SrtK m) (p : m.Perm l) : m = sortK l := srtK_uniq h (sortK_srt l) (p.trans (sortK_perm l).symm)
end DL
namespace DL
open PySem PySem.Spec L2
open PyProof.Rows hiding St
/-! ## sorted lists of tuples of texts and numbers -/
/-- v is a tuple of these keys -/
def IsKT (h : Heap) (v : Value) (ks : List Key) : Prop := ∃ a o us n, v = .ref a ∧ h.get? a = some o ∧ o.cls = .type "tuple" ∧ o.data = .seq us n ∧ Vals (ks.map kV) us.toList
theorem IsKT.keeps {h h' : Heap} {v : Value} {ks : List Key} (p : IsKT h v ks) (k : ∀ b o, h.get? b = some o → o.cls = .type "tuple" → h'.get? b = some o) : IsKT h' v ks := by
  obtain ⟨a, o, us, n, e, ho, hc, hd, r⟩ := p
  exact ⟨a, o, us, n, e, k a o ho hc, hc, hd, r⟩
def isTx : Key → Bool
  | .inl _ => false | .inr _ => true
section
variable {prog : Program} {w : World} {A : Around} {E : Value → Shared → Prop} {s : Shared} {Q : Bool → Shared → Prop}
theorem oneLt_texts (c : Bool) {x y : Str} {t u : Tok} (h : Q (decide (x.cps.toList < y.cps.toList)) s) : wpAny (model prog w) A (PyProof.Rows.oneLt' c (.str x t) (.str y u)) Q E s := by
  cases c with
  | true => exact strKind_oneLt prog w A E s (.str x t) (.str y u) x.cps.toList y.cps.toList rfl rfl h
  | false => exact PySem.W.kat_one _ _ (PySem.P.lt_str (Q := PySem.W.BoolBack Q) h)
theorem lex_keys {b fin : Bool} : ∀ {ks ls : List Key} {xs ys : List Value} (i : Nat), Vals (ks.map kV) xs → Vals (ls.map kV) ys → ks.map isTx = ls.map isTx → (ks = ls → fin = false) → Q (lexK ks ls) s → PySem.W.KatLex prog w A b fin Q (xs.zip ys) i s
  | [], [], _, _, i, .nil, .nil, _, hf, h => by
    refine PySem.W.kat_nil ?_
    rw [hf rfl]; exact h
  | [], _ :: _, _, _, _, _, _, hs, _, _ => by simp at hs
  | _ :: _, [], _, _, _, _, _, hs, _, _ => by simp at hs
  | k :: ks, l :: ls, _, _, i, .cons (b := u) (l₂ := us) r1 rs1, .cons (b := v) (l₂ := vs) r2 rs2, hs, hf, h => by
    have hs1 : isTx k = isTx l := (List.cons.inj hs).1
    have hs2 : ks.map isTx = ls.map isTx := (List.cons.inj hs).2
    show PySem.W.KatLex prog w A b fin Q ((u, v) :: us.zip vs) i s
    have go : ∀ (e : Bool), e = decide (k = l) → PySem.W.KatGo prog w A b fin Q u v (us.zip vs) i e s := by
      intro e he
      refine PySem.W.kat_go (fun e1 => ?_) (fun e1 => ?_)
      · have ek : k = l := of_decide_eq_true (he.symm.trans e1)
        subst ek
        refine PySem.W.kat_yes (lex_keys (i + 1) rs1 rs2 hs2 (fun z => hf (by rw [z])) ?_)
        unfold lexK at h
        rw [if_pos rfl] at h; exact h
      · have ek : ¬ k = l := of_decide_eq_false (he.symm.trans e1)
        refine PySem.W.kat_no ?_
        unfold lexK at h
        rw [if_neg ek] at h
        cases k with
        | inl p => cases l with
          | inl q =>
            obtain ⟨t, rfl⟩ := r1
            obtain ⟨t', rfl⟩ := r2
            exact TS.oneLt_ints _ h
          | inr q => cases hs1
        | inr p => cases l with
          | inl q => cases hs1
          | inr q =>
            obtain ⟨t, rfl⟩ := r1
            obtain ⟨t', rfl⟩ := r2
            exact oneLt_texts _ h
    refine PySem.W.kat_cons ?_
    cases k with
    | inl p => cases l with
      | inl q =>
        obtain ⟨t, rfl⟩ := r1
        obtain ⟨t', rfl⟩ := r2
        exact SeqAt.EqAt.int_int p t q t' prog w _ _ (go _ (by by_cases e : p = q <;> simp [e]))
      | inr q => cases hs1
    | inr p => cases l with
      | inl q => cases hs1
      | inr q =>
        obtain ⟨t, rfl⟩ := r1
        obtain ⟨t', rfl⟩ := r2
        exact SeqAt.EqAt.str_str p t q t' prog w _ _ (go _ (by by_cases e : p = q <;> simp [e]))
end
end DL
namespace DL
open PySem PySem.Spec L2
open PyProof.Rows hiding St
section
variable {prog : Program} {w : World} {A : Around} {E : Value → Shared → Prop} {s : Shared}
theorem keys_cmp {vs : List Value} {k : Value → List Key} {sh : List Bool} (hp : ∀ v ∈ vs, IsKT s.heap v (k v) ∧ (k v).map isTx = sh) : SrtO.Cmp prog w A s (tuples' true) (fun p => p.1 ∈ vs) (SrtO.lt2 fun v u => lexK (k v) (k u)) := by
  intro p q hm hm'
  obtain ⟨h1, s1⟩ := hp _ hm
  obtain ⟨h2, s2⟩ := hp _ hm'
  show wpAny (model prog w) A (keyLt' (tuples' true) p.1 q.1) (fun r s' => s' = s ∧ r = lexK (k p.1) (k q.1)) (fun _ _ => False) s
  generalize k p.1 = ks at h1 s1 ⊢
  generalize k q.1 = ls at h2 s2 ⊢
  obtain ⟨a, o, us, n, e, ho, hc, hd, r⟩ := h1
  obtain ⟨a', o', us', n', e', ho', hc', hd', r'⟩ := h2
  rw [e, e']
  refine PySem.W.kat_lt ho hd ho' hd' ?_
  have hl : us.size = us'.size := by
    have h1 := r.length
    have h2 := r'.length
    have h3 := congrArg List.length (s1.trans s2.symm)
    simp only [List.length_map, Array.length_toList] at h1 h2 h3
    omega
  exact lex_keys 0 r r' (s1.trans s2.symm) (fun _ => decide_eq_false (by omega)) ⟨rfl, rfl⟩
theorem keys_firsts {h : Heap} {k : Value → List Key} {b : Bool} {sh : List Bool} : ∀ {vs : List Value}, (∀ v ∈ vs, IsKT h v (k v) ∧ (k v).map isTx = b :: sh) → ∃ fs : List Value, PySem.W.KatTups h vs fs ∧ fs.length = vs.length ∧ ∀ f ∈ fs, if b = true then ∃ x t, f = Value.str x t else ∃ i t, f = Value.int i t
  | [], _ => ⟨[], PySem.W.KatTups.nil, rfl, fun f hf => nomatch hf⟩
  | v :: vs, hp => by
    obtain ⟨fs, h1, h2, h3⟩ := keys_firsts (vs := vs) fun u hu => hp u (List.mem_cons_of_mem _ hu)
    obtain ⟨⟨a, o, us, n, e, ho, hc, hd, r⟩, hs⟩ := hp v List.mem_cons_self
    subst e
    cases ek : k (.ref a) with
    | nil => rw [ek] at hs; cases hs
    | cons c cs =>
      rw [ek] at hs r
      have hb : isTx c = b := (List.cons.inj hs).1
      cases eu : us.toList with
      | nil => rw [eu] at r; cases r
      | cons u ur =>
        rw [eu] at r
        cases r with
        | cons r1 _ =>
          refine ⟨u :: fs, PySem.W.KatTups.cons ho hc hd ?_ h1, by rw [List.length_cons, List.length_cons, h2], fun f hf => ?_⟩
          · have z := congrArg (fun l : List Value => l[0]?) eu
            simpa using z
          · rcases List.mem_cons.mp hf with e | hf
            · subst e
              cases c with
              | inl i =>
                subst hb
                obtain ⟨t, rfl⟩ := r1
                exact ⟨i, t, rfl⟩
              | inr x =>
                subst hb
                obtain ⟨t, rfl⟩ := r1
                exact ⟨x, t, rfl⟩
            · exact h3 f hf
theorem keys_sortable {a : Addr} {vs : List Value} {k : Value → List Key} {b : Bool} {sh : List Bool} (h0 : 0 < vs.length) (hp : ∀ v ∈ vs, IsKT s.heap v (k v) ∧ (k v).map isTx = b :: sh) (ha : ∀ o, s.heap.get? a = some o → o.cls ≠ .type "tuple") : SrtO.SortableO prog w A s a vs fun v u => lexK (k v) (k u) := by
  intro h' keep
  have hp' : ∀ v ∈ vs, IsKT h' v (k v) ∧ (k v).map isTx = b :: sh := fun v hm => ⟨(hp v hm).1.keeps fun b o e c => keep b o (fun z => by subst z; exact ha o e c) e, (hp v hm).2⟩
  obtain ⟨fs, h1, h2, h3⟩ := keys_firsts hp'
  refine ⟨tuples' true, fun Q E hq => ?_, keys_cmp hp'⟩
  cases b with
  | true =>
    refine PySem.W.kat_kind (T := .type "str") h1 (by omega) (fun f hm => ?_) (by rfl) ?_
    · obtain ⟨x, t, rfl⟩ := h3 f hm
      exact PySem.W.Looks.now
    · have e : (Value.type "str" != Value.type "tuple") = true := by first | decide +kernel | rfl | decide
      rw [e]
      exact hq
  | false =>
    refine PySem.W.kat_kind (T := .type "int") h1 (by omega) (fun f hm => ?_) (by rfl) ?_
    · obtain ⟨x, t, rfl⟩ := h3 f hm
      exact PySem.W.Looks.now
    · have e : (Value.type "int" != Value.type "tuple") = true := by first | decide +kernel | rfl | decide
      rw [e]
      exact hq
theorem sorted_keys {l : Addr} {vs : List Value} {k : Value → List Key} {b : Bool} {sh : List Bool} {Q : Value → Shared → Prop} (hl : s.heap.IsList l vs.toArray) (hz : vs.length ≤ sizeLine) (hp : ∀ v ∈ vs, IsKT s.heap v (k v) ∧ (k v).map isTx = b :: sh)
    (h : ∀ (h' : Heap) (d : Addr) (out : List Value), SrtO.Srtd (fun v u => lexK (k v) (k u)) out → out.Perm vs → (∀ b o, s.heap.get? b = some o → h'.get? b = some o) → s.heap.objs.size ≤ d → (∃ n, h'.get? d = some (seqObj "list" out.toArray n)) → Q (.ref d) { s with heap := h' }) :
    wpAny (model prog w) A (call (.builtin "sorted") [.ref l]) Q E s := by
  refine SrtO.sorted_ord (swo_K k) hl hz (fun h2 h₁ a ha kk => ?_) fun out hs hb => ?_
  · refine keys_sortable (s := { s with heap := h₁ }) (by omega) (fun v hm => ⟨(hp v hm).1.keeps fun b o e _ => (kk b o e).2, (hp v hm).2⟩) fun o e => ?_
    have e' : some o = some (seqObj "list" vs.toArray 0) := e.symm.trans ha
    cases e'
    intro c
    exact absurd (Value.type.inj c) (by decide)
  · exact h _ _ out hs hb.perm (fun b o e => sortedAll_old e) (Nat.le_succ _) (sortedAll_at s.heap vs out.toArray)
end
end DL
namespace DL
open PySem PySem.Spec L2
open PyProof.Rows hiding St
def kOfV : V → Key
  | .int i => .inl i | .str x => .inr x | _ => .inl 0
theorem kOfV_kV : ∀ ks : List Key, (ks.map kV).map kOfV = ks
  | [] => rfl
  | .inl i :: r => by rw [List.map_cons, List.map_cons, kOfV_kV r]; rfl
  | .inr x :: r => by rw [List.map_cons, List.map_cons, kOfV_kV r]; rfl
def keysAt (H : Hp) : V → List Key
  | .ref a => match H a with
    | some (.tup xs) => xs.map kOfV
    | _ => []
  | _ => []
theorem keysAt_tup {H : Hp} {a : Addr} {ks : List Key} (h : H a = some (.tup (ks.map kV))) : keysAt H (.ref a) = ks := by
  unfold keysAt; simp only [h]; exact kOfV_kV ks
/-- sorted(xs) of tuples of numbers and texts, all of one shape -/
def rSortedKy (K : PySem.W.Frag) (sh : List Bool) : List V → Hp → VK → Prop := fun vs H Q => ∃ (a : Addr) (xs : List V), vs = [V.ref a] ∧ SqL K H a xs ∧ (∀ x ∈ xs, ∃ (t : Addr) (ks : List Key), x = V.ref t ∧ H t = some (.tup (ks.map kV)) ∧ ks.map isTx = sh) ∧
  ∀ (ys : List V) (p : Addr), ys.Pairwise (fun x y => lexK (keysAt H y) (keysAt H x) = false) → ys.Perm xs → H p = none → Q (.ref p) (upd H p (.lst ys))
theorem cr_sortedKy {X : Cx} {b : Bool} {sh : List Bool} : CallR X (.builtin "sorted") (rSortedKy X.K (b :: sh)) := by
  intro pins s σ H vs us Q I r h
  obtain ⟨a, xs, rfl, hs, hx, q⟩ := h
  obtain ⟨its, rv, hl, hz⟩ := I.list hs
  obtain ⟨u, rfl, ru⟩ := vals1 r
  obtain rfl : u = Value.ref a := ru
  obtain ⟨e1, e2⟩ := refs_back rv fun x m => by
    obtain ⟨t, _, e, _⟩ := hx x m
    exact ⟨t, e⟩
  refine sorted_keys (k := fun u => keysAt H (backV u)) (b := b) (sh := sh) hl.isList (by rw [← rv.length]; exact hz) (fun v hv => ?_) fun h' d out h1 h2 kp hd hn => ?_
  · obtain ⟨t, rfl⟩ := e2 v hv
    have hm : V.ref t ∈ xs := by rw [e1]; exact List.mem_map.mpr ⟨_, hv, rfl⟩
    obtain ⟨t', ks, e, ht, hsh⟩ := hx _ hm
    cases e
    obtain ⟨_, its2, r2, o, ho, hc, n, hd⟩ := I.hok _ _ ht
    have ek : keysAt H (backV (.ref t)) = ks := keysAt_tup ht
    refine ⟨?_, by rw [ek]; exact hsh⟩
    rw [ek]
    exact ⟨t, o, its2.toArray, n, rfl, ho, hc, hd, by simpa using r2⟩
  · have h3 : ∀ u ∈ out, ∃ a, u = Value.ref a := fun u hu => e2 u (h2.mem_iff.mp hu)
    obtain ⟨n, hn⟩ := hn
    have hb : (out.map backV).Perm xs := by
      rw [e1]
      exact h2.map backV
    refine ⟨.ref d, upd H d (.lst (out.map backV)), I.laid (t' := s.toks) kp hd ⟨?_, out, n, vals_back h3, hn⟩, rfl, q _ d (List.pairwise_map.mpr h1) hb (I.hok.fresh hd)⟩
    rw [hb.length_eq]
    exact hz
def tK (ks : List Key) : Da := .tup (ks.map kD)
theorem tK_kd : ∀ ks : List Key, keyDs (ks.map kD) = some ks
  | [] => rfl
  | .inl i :: r => by rw [List.map_cons]; show (match keyD (.int i), keyDs (r.map kD) with | some k, some ks => some (k :: ks) | _, _ => none) = _; rw [tK_kd r]; rfl
  | .inr x :: r => by rw [List.map_cons]; show (match keyD (.str x), keyDs (r.map kD) with | some k, some ks => some (k :: ks) | _, _ => none) = _; rw [tK_kd r]; rfl
theorem rps_tK {K : PySem.W.Frag} {H0 H : Hp} (k : Kp H0 H) : ∀ {vs : List V} {kss : List (List Key)}, Rps K H0 vs (kss.map tK) → vs.map (keysAt H) = kss ∧ ∀ x ∈ vs, ∃ t, x = V.ref t ∧ H0 t = some (.tup ((keysAt H x).map kV)) ∧ keysAt H x ∈ kss
  | _, [], .nil => ⟨rfl, fun x h => nomatch h⟩
  | v :: vs, ks :: kss, .cons r t => by
    obtain ⟨h1, h2⟩ := rps_tK k t
    have r : Rp K H0 v (.tup (ks.map kD)) := r
    cases r with
    | tup hp rp =>
      have e := keyDs_v rp (tK_kd ks)
      rw [e] at hp
      have ek : keysAt H (.ref _) = ks := keysAt_tup (k _ _ hp)
      refine ⟨by rw [List.map_cons, ek, h1], fun x hx => ?_⟩
      rcases List.mem_cons.mp hx with e | hx
      · subst e
        exact ⟨_, rfl, by rw [ek]; exact hp, by rw [ek]; exact List.mem_cons_self⟩
      · obtain ⟨t, a, b, c⟩ := h2 x hx
        exact ⟨t, a, b, List.mem_cons_of_mem _ c⟩
theorem rps_ofK {K : PySem.W.Frag} {H0 H : Hp} : ∀ {ys : List V}, (∀ x ∈ ys, ∃ t, x = V.ref t ∧ H0 t = some (.tup ((keysAt H x).map kV))) → Rps K H0 ys ((ys.map (keysAt H)).map tK)
  | [], _ => .nil
  | y :: ys, h => by
    obtain ⟨t, e, ht⟩ := h y List.mem_cons_self
    refine .cons ?_ (rps_ofK fun x hx => h x (List.mem_cons_of_mem _ hx))
    subst e
    exact .tup ht (rps_keys _)
section
variable {X : Cx} {rs : List Res} {Q : EQ} {r1 : Rv}
theorem cv_sorted {kss : List (List Key)} (b : Bool) (sh : List Bool) (w : Vw rs r1 (.lst (kss.map tK))) (hs : ∀ ks ∈ kss, ks.map isTx = b :: sh) (q : Q (.sh (.lst ((sortK kss).map tK))) rs) : CV X (.builtin "sorted") [r1] rs Q :=
  cv_of (cr_sortedKy (b := b) (sh := sh)) fun T H vs R pp => by
    obtain ⟨v, rfl, p⟩ := rp1 pp
    obtain ⟨a, ws, e, hl, rp⟩ := w.lstv' R p
    obtain ⟨h1, h2⟩ := rps_tK R.h0 rp
    subst e
    refine ⟨a, ws, rfl, SqL.of hl, fun x hx => ?_, fun ys p hy hpm hp => ?_⟩
    · obtain ⟨t, e, ht, hm⟩ := h2 x hx
      exact ⟨t, _, e, R.h0 _ _ ht, hs _ hm⟩
    · have e3 : ys.map (keysAt H) = sortK kss := sortK_of (List.pairwise_map.mpr hy) (by rw [← h1]; exact hpm.map _)
      have rr : Rps X.K T.H0 ys ((sortK kss).map tK) := by
        rw [← e3]
        exact rps_ofK fun x hx => let ⟨t, a, b, _⟩ := h2 x (hpm.mem_iff.mp hx); ⟨t, a, b⟩
      obtain ⟨R2, l2⟩ := R.share (o := .lst ys) hp
      exact ⟨_, rs, .sh (.lst _), l2, R2, .lst upd_same (rr.mono l2.h0), q⟩
end
end DL

set_option Elab.async false
set_option linter.all false
set_option maxRecDepth 100000
set_option maxHeartbeats 4000000
namespace DL
open PySem PySem.Spec L2
open PyProof.Rows hiding St
/-- sorted(d) of a dict with tuple keys, all of one shape -/
def rSortedD (b : Bool) (sh : List Bool) : List V → Hp → VK → Prop := fun vs H Q => ∃ (a : Addr) (kvs : List (List Key × V)), vs = [V.ref a] ∧ Rd H a (.dT kvs) ∧ (∀ p ∈ kvs, p.1.map isTx = b :: sh) ∧
  ∀ (ys : List V) (p : Addr), ys.Pairwise (fun x y => lexK (keysAt H y) (keysAt H x) = false) → (∀ x ∈ ys, ∃ t, x = V.ref t ∧ H t = some (.tup ((keysAt H x).map kV))) → (ys.map (keysAt H)).Perm (kvs.map (·.1)) → H p = none → Q (.ref p) (upd H p (.lst ys))
theorem isKeys_at {H : Hp} {kvs : List (List Key × V)} {bs : List Addr} (r : IsKeys H kvs bs) : bs.map (fun b => keysAt H (V.ref b)) = kvs.map (·.1) ∧ ∀ b ∈ bs, ∃ p ∈ kvs, H b = some (.tup (p.1.map kV)) := by
  unfold IsKeys at r
  induction r with
  | nil => exact ⟨rfl, fun b h => nomatch h⟩
  | cons h t ih =>
    refine ⟨by rw [List.map_cons, List.map_cons, ih.1, keysAt_tup h], fun b hb => ?_⟩
    rcases List.mem_cons.mp hb with e | hb
    · subst e
      exact ⟨_, List.mem_cons_self, h⟩
    · obtain ⟨p, m, e⟩ := ih.2 b hb
      exact ⟨p, List.mem_cons_of_mem _ m, e⟩
theorem cr_sortedD {X : Cx} {b : Bool} {sh : List Bool} (hc : X.calm = true) : CallR X (.builtin "sorted") (rSortedD b sh) := by
  intro pins s σ H vs us Q I r h
  obtain ⟨d, kvs, rfl, hd, hsh, q⟩ := h
  obtain ⟨u, rfl, rx⟩ := r.one
  cases rx
  obtain ⟨z, hs, ks, pr, o, es, ep, ho, hx, hdt, he, hn⟩ := (show ObjOk X.prog X.w H s.heap d (.dT kvs) from hd.ok I.hok)
  have l1 : es.size = ks.length := size_of_entries he
  have l2 : kvs.length = ks.length := Paired.length pr
  obtain ⟨kk1, kk2⟩ := isKeys_at (isKeys_of pr)
  refine Calls.call_function_entry PyProof.Rows.kind_sorted PyProof.Rows.plain_sorted PyProof.Rows.entry_sorted (PyProof.Rows.args_sorted1 _) ?_
  unfold Builtin.«sorted»
  refine wpAny_bind (m := checkCount "sorted" 1 1 _) (wpAny_pure ?_)
  refine wpAny_bind (PySem.W.kdu_collect (A := X.A.in1) (kdl_raw hs hx hdt) (I.ok.hd hc) ho (by omega) fun h' tk acc' kp it => ?_)
  have ea : acc'.toList = ks.map fun x => Value.ref x.2.1 := by
    have hl : acc'.toList.length = ks.length := by rw [Array.length_toList, it.1]; exact l1
    apply List.ext_getElem?
    intro j
    rw [List.getElem?_map]
    cases hj : acc'.toList[j]? with
    | none =>
      have h1 := List.getElem?_eq_none_iff.mp hj
      rw [List.getElem?_eq_none (by omega)]
      all_goals rfl
    | some v =>
      obtain ⟨en, hen, hv⟩ := it.2 j v (by rw [← Array.getElem?_toList]; exact hj)
      have qe := entry_at he j
      rw [hen] at qe
      cases hb : ks[j]? with
      | none =>
        rw [hb] at qe
        exact nomatch (show some en = none from qe)
      | some b =>
        rw [hb] at qe
        have e2 : en = entryOfKey (tupleKind (mixKind X.prog X.w)) b := Option.some.inj qe
        rw [hv, e2]
        all_goals rfl
  have I1 : Inv X pins σ H { s with heap := h', toks := tk } := I.kept kp
  have hal : acc'.toList.length ≤ sizeLine := by rw [ea, List.length_map]; omega
  refine wpAny_bind (wpAny_newList ?_ hal)
  have hoL : (h'.push (seqObj "list" acc'.toList.toArray 0)).get? h'.objs.size = some (seqObj "list" acc'.toList.toArray 0) := Heap.get?_push_size _ rfl
  show wpAny _ _ _ _ _ { s with heap := h'.push (seqObj "list" acc'.toList.toArray 0), toks := tk }
  have hkt : ∀ v ∈ acc'.toList, IsKT (h'.push (seqObj "list" acc'.toList.toArray 0)) v (keysAt H (backV v)) ∧ (keysAt H (backV v)).map isTx = b :: sh := fun v hv => by
    rw [ea] at hv
    obtain ⟨x, hx, rfl⟩ := List.mem_map.mp hv
    obtain ⟨p, hp, ht⟩ := kk2 x.2.1 (List.mem_map.mpr ⟨x, hx, rfl⟩)
    obtain ⟨_, its2, r2, o, ho, hc, n, hd⟩ := I1.hok _ _ ht
    have ek : keysAt H (backV (.ref x.2.1)) = p.1 := keysAt_tup ht
    rw [ek]
    exact ⟨⟨x.2.1, o, its2.toArray, n, rfl, Heap.get?_push_of_some _ ho, hc, hd, by simpa using r2⟩, hsh p hp⟩
  refine wpAny_bind (wpAny_holding (wpAny_call_entry PyProof.Rows.slot_list_sort ⟨_, hoL, rfl⟩ PyProof.Rows.entry_list_sort
    (SrtO.list_sort_ord (s := { s with heap := h'.push (seqObj "list" acc'.toList.toArray 0), toks := tk }) (swo_K fun u => keysAt H (backV u)) hoL hal (fun h2 => keys_sortable (b := b) (sh := sh) (by omega) hkt fun o e => ?_) fun out h1 h2 => ⟨_, rfl, ?_⟩)
    (PyProof.Rows.args_list_sort _)))
  · have e' : some o = some (seqObj "list" acc'.toList.toArray 0) := e.symm.trans hoL
    cases e'
    intro c
    exact absurd (Value.type.inj c) (by decide)
  have e2 : ∀ u ∈ out, ∃ a, u = Value.ref a := fun u hu => by
    have := h2.perm.mem_iff.mp hu
    rw [ea] at this
    obtain ⟨x, _, rfl⟩ := List.mem_map.mp this
    exact ⟨_, rfl⟩
  obtain ⟨e', he'⟩ := PyProof.Rows.sortedHeap_at (vs := acc'.toList) (out := out.toArray) hoL
  have hlen : (out.map backV).length ≤ sizeLine := by
    rw [List.length_map, h2.perm.length_eq]
    exact hal
  refine wpAny_pure ⟨_, rfl, .ref h'.objs.size, upd H h'.objs.size (.lst (out.map backV)), I1.laid (t' := tk) (fun b u e => ?_) (Nat.le_refl _)
    (show ObjOk X.prog X.w _ _ _ (.lst (out.map backV)) from ⟨hlen, out, e', vals_back e2, he'⟩), rfl, q _ _ (List.pairwise_map.mpr h1) (fun x hx => ?_) ?_ (I1.hok.fresh (Nat.le_refl _))⟩
  · have hb : b < h'.objs.size := Heap.lt_size e
    rw [PyProof.Rows.sortedHeap_old (Nat.ne_of_lt hb) (by rw [size_push']; exact Nat.lt_succ_of_lt hb)]
    exact Heap.get?_push_of_some _ e
  · obtain ⟨u, hu, rfl⟩ := List.mem_map.mp hx
    have := h2.perm.mem_iff.mp hu
    rw [ea] at this
    obtain ⟨x, hxk, rfl⟩ := List.mem_map.mp this
    obtain ⟨p, hp, ht⟩ := kk2 x.2.1 (List.mem_map.mpr ⟨x, hxk, rfl⟩)
    refine ⟨x.2.1, rfl, ?_⟩
    have ek : keysAt H (backV (.ref x.2.1)) = p.1 := keysAt_tup ht
    rw [ek]
    exact ht
  · have hp := ((h2.perm.map backV).map (keysAt H))
    rw [ea] at hp
    refine hp.trans (List.Perm.of_eq ?_)
    rw [← kk1, List.map_map, List.map_map, List.map_map]
    rfl
section
variable {X : Cx} {rs : List Res} {Q : EQ} {r1 : Rv}
theorem rpT_keys {K : PySem.W.Frag} {H0 : Hp} : ∀ {kv : List (List Key × V)} {kd : List (List Key × Da)}, RpT K H0 kv kd → kv.map (·.1) = kd.map (·.1)
  | _, _, .nil => rfl
  | _, _, .cons r t => by rw [List.map_cons, List.map_cons, rpT_keys t]
theorem cv_sortedT (hc : X.calm = true) {kvs : List (List Key × Da)} (b : Bool) (sh : List Bool) (w : Vw rs r1 (.dT kvs)) (hs : ∀ p ∈ kvs, p.1.map isTx = b :: sh) (q : Q (.sh (.lst ((sortK (kvs.map (·.1))).map tK))) rs) : CV X (.builtin "sorted") [r1] rs Q :=
  cv_of (cr_sortedD (b := b) (sh := sh) hc) fun T H vs R pp => by
    obtain ⟨v, rfl, p⟩ := rp1 pp
    obtain ⟨a, kv, e, hd, rt⟩ := w.dTv R p
    subst e
    have ek := rpT_keys rt
    refine ⟨a, kv, rfl, .inl hd, fun p hp => ?_, fun ys p hy hx hpm hp => ?_⟩
    · have : p.1 ∈ kvs.map (·.1) := by rw [← ek]; exact List.mem_map.mpr ⟨p, hp, rfl⟩
      obtain ⟨p', h1, h2⟩ := List.mem_map.mp this
      rw [← h2]
      exact hs p' h1
    · have e3 : ys.map (keysAt H) = sortK (kvs.map (·.1)) := sortK_of (List.pairwise_map.mpr hy) (by rw [← ek]; exact hpm)
      have rr : Rps X.K T.H0 ys ((sortK (kvs.map (·.1))).map tK) := by
        rw [← e3]
        exact rps_ofK fun x h => by
          obtain ⟨t, e, ht⟩ := hx x h
          exact ⟨t, e, R.tu _ _ ht⟩
      obtain ⟨R2, l2⟩ := R.share (o := .lst ys) hp
      exact ⟨_, rs, .sh (.lst _), l2, R2, .lst upd_same (rr.mono l2.h0), q⟩
end
end DL

set_option Elab.async false
set_option linter.all false
set_option maxRecDepth 100000
set_option maxHeartbeats 4000000
namespace DL
open PySem PySem.Spec L2
theorem lexK_app : ∀ {x y a b : List Key}, x.length = y.length → lexK x y = true → lexK (x ++ a) (y ++ b) = true
  | [], [], _, _, _, h => by cases h
  | [], _ :: _, _, _, hl, _ => by cases hl
  | _ :: _, [], _, _, hl, _ => by cases hl
  | p :: x, q :: y, a, b, hl, h => by
    unfold lexK at h
    show lexK (p :: (x ++ a)) (q :: (y ++ b)) = true
    unfold lexK
    split at h
    · rename_i e
      rw [if_pos e]
      exact lexK_app (by simpa using hl) h
    · rename_i e
      rw [if_neg e]
      exact h
/-- keys with what stands behind each of them -/
theorem sortK_behind {l : List (List Key)} (g : List Key → List Key) {n : Nat} (hl : ∀ x ∈ l, x.length = n) : sortK (l.map fun x => x ++ g x) = (sortK l).map fun x => x ++ g x := by
  refine (sortK_of (List.pairwise_map.mpr ?_) ((sortK_perm l).map _)).symm
  refine List.Pairwise.imp_of_mem (fun {x y} hx hy h => ?_) (sortK_srt l)
  have h1 := hl x ((sortK_perm l).mem_iff.mp hx)
  have h2 := hl y ((sortK_perm l).mem_iff.mp hy)
  rcases lexK_tri x y with e | e | e
  · exact lexK_asym (lexK_app (h1.trans h2.symm) e)
  · rw [e]; exact lexK_irrefl _
  · rw [h] at e; cases e
end DL

set_option Elab.async false
set_option linter.all false
set_option maxRecDepth 100000
set_option maxHeartbeats 4000000
namespace DL
open PySem PySem.Spec L2
open PyProof.Rows (envOfC)
/-- a method called by keywords, the instance ahead: the parameters are places in the instance and the keywords' values -/
structure MeK (P : Program) (w : World) (K : PySem.W.Frag) (mg : Str → Option Value) (base : Heap) (C : Addr) (m : Str) (ps ks : List Str) (ix : List Nat) (k : Nat) (c : Ct) : Prop where
  ex : ∃ f fd, Meth K C m f ∧ (∀ (s : Shared) (u : Value) (ws : List Value), ws.length = ks.length → BindsTo s fd ⟨[u], ks.zip ws⟩ (ps.zip (u :: ix.map fun i => ws.getD i .none))) ∧ FnOk P w K mg base CX0 k f fd ps (cSp K c)
  cls : Cls K C
  mono : Mono c
theorem meK_mk {P : Program} {w : World} {K : PySem.W.Frag} {mg : Str → Option Value} {base : Heap} {C : Addr} {x m qual : Str} {st : Stmt} {f : Addr} {fd : FuncData} {ps ks : List Str} {ix : List Nat} {k : Nat} {c : Ct} (F : Fun K x qual st f fd) (hm : Meth K C m f) (hc : Cls K C) (G : FnOk P w K mg base CX0 k f fd ps (cSp K c)) (mono : Mono c)
    (h : ∀ (kV doc pm : Value) (an : Option Addr) (cdv ct u : Value) (ws : List Value), ws.length = ks.length → bindArgs (PySem.W.fnOf x qual (defArgs st) (defBody st) (defScope st) .none kV doc pm an cdv ct) ⟨[u], ks.zip ws⟩ = pure (ps.zip (u :: ix.map fun i => ws.getD i .none))) : MeK P w K mg base C m ps ks ix k c := by
  refine ⟨⟨f, fd, hm, ?_, G⟩, hc, mono⟩
  obtain ⟨oc, od, kV, doc, pm, an, cdv, ct, osl, rfl, lk, hcd⟩ := F.ex
  exact fun s u ws hl => .of_eq (h kV doc pm an cdv ct u ws hl)
section
variable {X : Cx} {sl : Sl} {rs : List Res} {Q : EQ} {o : Expr} {pos : Pos} {k : Nat}
theorem run_fn1 {pins : List (Addr × Obj)} {σ : L2.St} {H : Hp} {s : Shared} {Q : VK} {u : Value} {v : V} {ws : List Value} {zs : List V} {f : Addr} {fd : FuncData} {ps ks : List Str} {ix : List Nat} {k : Nat} {sp : Sp} (F : FnOk X.prog X.w X.K X.mg X.base CX0 k f fd ps sp) (hr : Room k X.A)
    (hb : BindsTo s fd ⟨[u], ks.zip ws⟩ (ps.zip (u :: ix.map fun i => ws.getD i .none))) (I : Inv X pins σ H s) (ru : RelV v u) (rz : Vals (ix.map fun i => zs.getD i .non) (ix.map fun i => ws.getD i .none)) (h : sp (v :: ix.map fun i => zs.getD i .non) H Q E0) : wpAny (model X.prog X.w) X.A (call (.ref f) [u] (ks.zip ws)) (EP X pins σ Q) X.xe s := by
  refine wpAny_call (codeAny_mono (F.run X.A X.stack s H ⟨[u], ks.zip ws⟩ (u :: ix.map fun i => ws.getD i .none) (v :: ix.map fun i => zs.getD i .non) Q E0 hr I.env0 hb (.cons ru rz) h) fun r s' hq => ?_)
  cases r with
  | error e => exact (hq : False).elim
  | ok fl =>
    cases fl with
    | ret u => exact I.after hq
    | next => exact False.elim hq
    | brk => exact False.elim hq
    | cont => exact False.elim hq
/-- o.m(k = v, ..) -/
theorem ew_methK {P : Program} {w : World} {K : PySem.W.Frag} {mg : Str → Option Value} {base : Heap} {C : Addr} {m : Str} {ps ks : List Str} {ix : List Nat} {c : Ct} {apos : Pos} {kws : List Keyword} (M : MeK P w K mg base C m ps ks ix k c) (hr : Room k X.A)
    (h : EW X sl o rs fun r0 rs1 => ∃ fs, InsV rs1 r0 C fs ∧ fs.lookup m = none ∧ KW X sl kws rs1 fun as rs2 => as.length = ks.length ∧ Kc c (r0 :: ix.map fun i => as.getD i (.sh .non)) rs2 Q)
    (e1 : X.prog = P := by rfl) (e2 : X.w = w := by rfl) (e3 : X.K = K := by rfl) (e4 : X.mg = mg := by rfl) (e5 : X.base = base := by rfl) {pl : Sem Bool}
    (hall : (backToKw pos (keywordEach kws X.env)).all (·.1.isSome) = true := by rfl) (hks : (backToKw pos (keywordEach kws X.env)).filterMap (·.1) = ks := by rfl)
    (hpl : ((backTo pos (starEach [] X.env)).any (·.1) || (backToKw pos (keywordEach kws X.env)).any (·.1.isNone)) = false := by rfl)
    (ht : eval (.Call (.Attribute o m apos) [] kws pos) X.env = (do
      let ov ← eval o X.env
      standAt apos.atName
      let (f, first) ← holding [ov] (getMethod ov m pl)
      callWith pos f first (backTo pos (starEach [] X.env)) (backToKw pos (keywordEach kws X.env))) := by rfl) : EW X sl (.Call (.Attribute o m apos) [] kws pos) rs Q := by
  subst e1 e2 e3 e4 e5
  obtain ⟨f, fd, hm, hb, G⟩ := M.ex
  refine ⟨fun T σ H R S pins s I => ?_⟩
  refine PySem.W.methodCall_KW (pl := pl) (thn (h.go T σ H R S pins s I) fun u s1 ⟨x, H1, I1, rx, T1, rs1, r0, l1, R1, p1, fs, w, hn, q1⟩ => ?_) ht
  obtain ⟨ad, dx, gs, e1, e2, rf⟩ := w.at R1 p1
  subst e1
  obtain rfl : u = Value.ref ad := rx
  refine getmeth_ok I1 e2 M.cls hm (rf.miss hn) ?_
  refine PySem.W.callWith_KW0 (first := [.ref ad]) (h₀ := X.base) I.ok.mod.kin hm.kp hall (thn (q1.go T1 σ H1 R1 (S.le l1) pos pins s1 I1) fun ws s2 ⟨zs, H2, I2, rz, T2, rs2, as, l2, R2, p2, hl, q2⟩ => ⟨I2.kIn, ?_⟩) hpl
  rw [hks]
  have hwl : ws.length = ks.length := by rw [← rz.length, p2.len, hl]
  refine run_fn1 (v := .ref ad) G hr (hb s2 _ ws hwl) I2 rfl (vals_map rz ix) ?_
  have q := Kc.sp (E := E0) q2 R2 (.cons (p1.le l2) (rpvs_map p2 ix)) M.mono
  obtain ⟨T', rs', as', a, b, d⟩ := q
  exact ⟨T', rs', as', a, b, M.mono _ _ _ _ (fun r rs'' q v T'' H'' l R'' p'' => (q v T'' H'' l R'' p'').le (l1.trans l2)) d⟩
end
end DL

set_option Elab.async false
set_option linter.all false
set_option maxRecDepth 100000
set_option maxHeartbeats 4000000
namespace DL
open PySem PySem.Spec L2
/-! ## the rule as rows in order -/
def pairK (r : RowT) : List Key := [.inr r.1, .inr r.2.1]
def rowK (r : RowT) : List Key := [.inr r.1, .inr r.2.1, .inr r.2.2]
theorem rowK_D (r : RowT) : tK (rowK r) = rowD r := rfl
theorem rows_tK (rows : List RowT) : rowsD rows = .lst ((rows.map rowK).map tK) := by
  unfold rowsD
  rw [List.map_map]
  rfl
def behK (rows : List RowT) : List Key → List Key
  | [.inr x, .inr y] => [.inr (lookR rows x y)]
  | _ => []
def ruleD (rows : List RowT) : Da := .lst ((sortK (rows.map rowK)).map tK)
theorem find_row : ∀ {rows : List RowT} {r : RowT}, (rows.map fun r => (r.1, r.2.1)).Nodup → r ∈ rows → rows.find? (fun q => decide (q.1 = r.1 ∧ q.2.1 = r.2.1)) = some r
  | [], _, _, h => nomatch h
  | q :: rows, r, nd, h => by
    rw [List.map_cons] at nd
    have nd1 := List.nodup_cons.mp nd
    rcases List.mem_cons.mp h with e | h
    · subst e
      rw [List.find?_cons, decide_eq_true ⟨rfl, rfl⟩]
    · have ne : ¬ (q.1 = r.1 ∧ q.2.1 = r.2.1) := fun z => nd1.1 (List.mem_map.mpr ⟨r, h, Prod.ext z.1.symm z.2.symm⟩)
      rw [List.find?_cons, decide_eq_false ne]
      exact find_row nd1.2 h
theorem look_row {rows : List RowT} {r : RowT} (nd : (rows.map fun r => (r.1, r.2.1)).Nodup) (h : r ∈ rows) : lookR rows r.1 r.2.1 = r.2.2 := by
  unfold lookR; rw [find_row nd h]; rfl
theorem val_row {rows : List RowT} {r : RowT} (nd : (rows.map fun r => (r.1, r.2.1)).Nodup) (h : r ∈ rows) : valD (kvR rows) [.inr r.1, .inr r.2.1] = some (.str r.2.2) := by
  rw [valD_kvR, find_row nd h]; rfl
theorem kvR_keys (rows : List RowT) : (kvR rows).map (·.1) = rows.map pairK := by unfold kvR; rw [List.map_map]; rfl
theorem sort_pair {rows : List RowT} {p : List Key} (h : p ∈ sortK (rows.map pairK)) : ∃ r ∈ rows, p = pairK r := by
  obtain ⟨r, hr, e⟩ := List.mem_map.mp ((sortK_perm _).mem_iff.mp h)
  exact ⟨r, hr, e.symm⟩
theorem rule_eq {rows : List RowT} (nd : (rows.map fun r => (r.1, r.2.1)).Nodup) : sortK (rows.map rowK) = (sortK (rows.map pairK)).map fun p => p ++ behK rows p := by
  rw [← sortK_behind (behK rows) (n := 2) fun x hx => by
    obtain ⟨r, _, rfl⟩ := List.mem_map.mp hx
    rfl, List.map_map]
  congr 1
  refine List.map_congr_left fun r hr => ?_
  show rowK r = [.inr r.1, .inr r.2.1] ++ [.inr (lookR rows r.1 r.2.1)]
  rw [look_row nd hr]
  rfl
theorem sortK_len (l : List (List Key)) : (sortK l).length = l.length := (sortK_perm l).length_eq
end DL

set_option Elab.async false
set_option linter.all false
set_option maxRecDepth 100000
set_option maxHeartbeats 4000000
namespace DL
open PySem PySem.Spec L2
/-! ## far ticks, by laps -/
theorem Bd.go_add (bd : Bd) (s : Sd) (t : Nat) : ∀ u, bd.go s (t + u) = bd.go (bd.go s t) u
  | 0 => rfl
  | u + 1 => by show bd.tick (bd.go s (t + u)) = bd.tick (bd.go (bd.go s t) u); rw [Bd.go_add bd s t u]
theorem Bd.F_zero (bd : Bd) (s : Sd) : bd.F s 0 = 0 := rfl
theorem Bd.F_add (bd : Bd) (s : Sd) (t : Nat) : ∀ u, bd.F s (t + u) = bd.F s t + bd.F (bd.go s t) u
  | 0 => by rw [Bd.F_zero]; rfl
  | u + 1 => by rw [← Nat.add_assoc, Bd.F_succ, Bd.F_succ, Bd.F_add bd s t u, Bd.go_add]; omega
theorem Bd.Road.per {bd : Bd} {s : Sd} {n b : Nat} (h : bd.Road s n b) (j : Nat) : bd.go s (n + j) = bd.go s (b + j) ∧ bd.F s (n + j) + bd.F s b = bd.F s (b + j) + bd.F s n := by
  rw [Bd.go_add, Bd.go_add, Bd.F_add, Bd.F_add, h.back]
  exact ⟨rfl, by omega⟩
theorem Bd.Road.laps {bd : Bd} {s : Sd} {n b : Nat} (h : bd.Road s n b) (r : Nat) : ∀ q : Nat, bd.go s (b + r + q * (n - b)) = bd.go s (b + r) ∧ bd.F s (b + r + q * (n - b)) = bd.F s (b + r) + q * (bd.F s n - bd.F s b)
  | 0 => by simp
  | q + 1 => by
    have hl := h.lt
    have h1 := Bd.Road.laps h r q
    have e : b + r + (q + 1) * (n - b) = n + (r + q * (n - b)) := by rw [Nat.succ_mul]; omega
    have e2 : b + (r + q * (n - b)) = b + r + q * (n - b) := by omega
    have h2 := h.per (r + q * (n - b))
    have hm := Bd.F_mono (bd := bd) (s := s) (Nat.le_of_lt hl)
    rw [e2] at h2
    rw [e, h2.1, h1.1, Nat.succ_mul]
    exact ⟨rfl, by omega⟩
/-- where they stand behind t ticks, and the steps of both -/
abbrev gonD (bd : Bd) (s : Sd) (t : Nat) : Da := .tup [(bd.go s t).da, .int (bd.F s t), .int ((t : Int) - bd.F s t)]
theorem goD_eq {bd : Bd} {s : Sd} {n b : Nat} (h : bd.Road s n b) (t : Nat) : goD bd s n b t = gonD bd s t := by
  unfold goD gonD
  by_cases ht : t < n
  · rw [if_pos ht]
  · rw [if_neg ht]
    have hl := h.lt
    have h1 := h.laps ((t - b) % (n - b)) ((t - b) / (n - b))
    have hm := Bd.F_mono (bd := bd) (s := s) (Nat.le_of_lt hl)
    have e : b + (t - b) % (n - b) + (t - b) / (n - b) * (n - b) = t := by
      have := Nat.mod_add_div (t - b) (n - b)
      rw [Nat.mul_comm] at this
      omega
    rw [e] at h1
    have e3 : (bd.F s (b + (t - b) % (n - b)) : Int) + (((t - b) / (n - b) : Nat) : Int) * ((bd.F s n : Int) - bd.F s b) = (bd.F s t : Int) := by
      rw [h1.2, Int.natCast_add, Int.natCast_mul, Int.ofNat_sub hm]
    rw [e3, ← h1.1]
theorem gonD_alk (bd : Bd) (s : Sd) (t : Nat) : alkD 3 (gonD bd s t) = true := rfl
theorem rows_okD {i j : Nat} {rows : List RowT} (h : RowsTo i j rows) : okD 2 (ruleD rows) = true := by
  have h0 : ∀ r ∈ rows, okD 1 (rowD r) = true := fun r hr => by
    obtain ⟨a, b, ha, hb, h1, h2, _⟩ := h.at_ r hr
    have e : ∀ k, k < 6 → PySem.PyData.strOk (sgn k) = true := fun k hk => by
      match k, hk with
      | 0, _ => decide +kernel | 1, _ => decide +kernel | 2, _ => decide +kernel | 3, _ => decide +kernel | 4, _ => decide +kernel | 5, _ => decide +kernel
    have ew : PySem.PyData.strOk r.2.2 = true := by rcases h.ws r hr with e | e | e <;> (rw [e]; decide +kernel)
    unfold rowD
    simp only [okD, okDs]
    rw [ha, hb, e a h1, e b h2, ew]
    rfl
  unfold ruleD
  show okDs 1 _ = true
  refine okDs_all fun d hd => ?_
  obtain ⟨ks, hks, rfl⟩ := List.mem_map.mp hd
  obtain ⟨r, hr, rfl⟩ := List.mem_map.mp ((sortK_perm _).mem_iff.mp hks)
  rw [rowK_D]
  exact h0 r hr
end DL

set_option Elab.async false
set_option linter.all false
set_option maxRecDepth 100000
set_option maxHeartbeats 4000000
namespace DL
open PySem PySem.Spec L2
open PyProof.Rows hiding St
/-! ## a list of ours, lent -/
mutual
def noL : Da → Bool
  | .lst _ => false | .lstK _ => false | .tup ds => noLs ds | .tupK ds => noLs ds
  | .dT kvs => noLT kvs | .dK kvs => noLS kvs | .ins _ fs => noLF fs | .dL kvs => noLT kvs | .exn _ fs => noLF fs | _ => true
def noLs : List Da → Bool
  | [] => true | d :: r => noL d && noLs r
def noLT : List (List Key × Da) → Bool
  | [] => true | (_, d) :: r => noL d && noLT r
def noLS : List (Key × Da) → Bool
  | [] => true | (_, d) :: r => noL d && noLS r
def noLF : List (Str × Da) → Bool
  | [] => true | (_, d) :: r => noL d && noLF r
end
def Res.noL : Res → Bool
  | .off => true | .tray _ _ => true | .lst ds => noLs ds | .dT kvs => noLT kvs | .dK kvs => noLS kvs | .ins _ fs => noLF fs | .frz d => DL.noL d | _ => false
def less (H : Hp) (p : Addr) : Hp := fun a => if a = p then none else H a
theorem less_ne {H : Hp} {p a : Addr} (h : a ≠ p) : less H p a = H a := if_neg h
theorem less_same {H : Hp} {p : Addr} : less H p p = none := if_pos rfl
section
variable {K : PySem.W.Frag} {H : Hp} {p : Addr} {ls : List V}
mutual
theorem Rp.less (hp : H p = some (.lst ls)) {v : V} {d : Da} (h : Rp K H v d) (e : noL d = true) : Rp K (DL.less H p) v d := by
  cases h with
  | non => exact .non
  | bl b => exact .bl b
  | int i => exact .int i
  | str x => exact .str x
  | ty n => exact .ty n
  | adr a => exact .adr a
  | dL h r => exact .dL (by rw [less_ne (fun z => by rw [z, hp] at h; cases h)]; exact h) (RpT.less hp r (by unfold noL at e; exact e))
  | exn h h2 r => exact .exn (by rw [less_ne (fun z => by rw [z, hp] at h; have z' := Option.some.inj h; unfold xco at z'; cases z')]; exact h) (by rw [less_ne (fun z => by rw [z, hp] at h2; cases h2)]; exact h2) (RpF.less hp r (by unfold noL at e; exact e))
  | tup a b => exact .tup ((less_ne (fun z => by rw [z, hp] at a; cases a)).trans a) (Rps.less hp b (by unfold noL at e; exact e))
  | tupK a b =>
    refine .tupK ?_ (Rps.less hp b (by unfold noL at e; exact e))
    rcases a with a | a
    · refine .inl ?_
      rcases a with a | ⟨o, a⟩
      · exact .inl ((less_ne (fun z => by rw [z, hp] at a; cases a)).trans a)
      · exact .inr ⟨o, (less_ne (fun z => by rw [z, hp] at a; cases a)).trans a⟩
    · exact .inr a
  | lst a b => unfold noL at e; cases e
  | lstK a b => unfold noL at e; cases e
  | dT a b => exact .dT ((less_ne (fun z => by rw [z, hp] at a; cases a)).trans a) (RpT.less hp b (by unfold noL at e; exact e))
  | dK a b => exact .dK ((less_ne (fun z => by rw [z, hp] at a; cases a)).trans a) (RpS.less hp b (by unfold noL at e; exact e))
  | ins a b => exact .ins ((less_ne (fun z => by rw [z, hp] at a; cases a)).trans a) (RpF.less hp b (by unfold noL at e; exact e))
theorem Rps.less (hp : H p = some (.lst ls)) {v : List V} {d : List Da} (h : Rps K H v d) (e : noLs d = true) : Rps K (DL.less H p) v d := by
  cases h with
  | nil => exact .nil
  | cons a b =>
    unfold noLs at e
    rw [Bool.and_eq_true] at e
    exact .cons (Rp.less hp a e.1) (Rps.less hp b e.2)
theorem RpT.less (hp : H p = some (.lst ls)) {v : List (List Key × V)} {d : List (List Key × Da)} (h : RpT K H v d) (e : noLT d = true) : RpT K (DL.less H p) v d := by
  cases h with
  | nil => exact .nil
  | cons a b =>
    unfold noLT at e
    rw [Bool.and_eq_true] at e
    exact .cons (Rp.less hp a e.1) (RpT.less hp b e.2)
theorem RpS.less (hp : H p = some (.lst ls)) {v : List (Key × V)} {d : List (Key × Da)} (h : RpS K H v d) (e : noLS d = true) : RpS K (DL.less H p) v d := by
  cases h with
  | nil => exact .nil
  | cons a b =>
    unfold noLS at e
    rw [Bool.and_eq_true] at e
    exact .cons (Rp.less hp a e.1) (RpS.less hp b e.2)
theorem RpF.less (hp : H p = some (.lst ls)) {v : List (Str × V)} {d : List (Str × Da)} (h : RpF K H v d) (e : noLF d = true) : RpF K (DL.less H p) v d := by
  cases h with
  | nil => exact .nil
  | cons a b =>
    unfold noLF at e
    rw [Bool.and_eq_true] at e
    exact .cons (Rp.less hp a e.1) (RpF.less hp b e.2)
end
end
def Tw.thaw (T : Tw) (k : Nat) : Tw := { T with H0 := less T.H0 (T.ad k), own := fun a => if a = T.ad k then some k else T.own a }
theorem RepH.thaw {K : PySem.W.Frag} {T : Tw} {H : Hp} {rs : List Res} {k : Nat} {ds : List Da} (R : RepH K T rs H) (h : rs[k]? = some (.frz (.lst ds))) (hd : noLs ds = true) (hn : ∀ j r, j ≠ k → rs[j]? = some r → r.noL = true) :
    RepH K (T.thaw k) (rs.set k (.lst ds)) H ∧ ∃ vs, T.H0 (T.ad k) = some (.lst vs) := by
  have hr : Rp K T.H0 (.ref (T.ad k)) (.lst ds) := R.rs k _ h
  have hk : k < rs.length := (List.getElem?_eq_some_iff.mp h).1
  obtain ⟨vs, h1, h2⟩ : ∃ vs, T.H0 (T.ad k) = some (.lst vs) ∧ Rps K T.H0 vs ds := by
    cases hr with
    | lst a b => exact ⟨_, a, b⟩
  have hown : ∀ a j, T.own a = some j → a ≠ T.ad k := fun a j e z => by
    have := (R.dj a j e).1
    rw [z, h1] at this; cases this
  have ho : ∀ a j, T.own a = some j → (T.thaw k).own a = some j := fun a j e => (if_neg (hown a j e)).trans e
  refine ⟨⟨by rw [List.length_set]; exact R.n, fun a u e => ?_, R.fr, fun a j e => ?_, fun a u e => ?_, fun j r e => ?_, fun a xs e => ?_⟩, vs, h1⟩
  · by_cases ha : a = T.ad k
    · subst ha; rw [show (T.thaw k).H0 (T.ad k) = none from less_same] at e; cases e
    · rw [show (T.thaw k).H0 a = T.H0 a from less_ne ha] at e; exact R.h0 a u e
  · by_cases ha : a = T.ad k
    · subst ha
      exact ⟨less_same, R.df _ _ h1, by rw [R.h0 _ _ h1]; exact fun z => nomatch z⟩
    · rw [show (T.thaw k).own a = T.own a from if_neg ha] at e
      obtain ⟨d1, d2, d3⟩ := R.dj a j e
      exact ⟨(less_ne ha).trans d1, d2, d3⟩
  · by_cases ha : a = T.ad k
    · subst ha; rw [show (T.thaw k).H0 (T.ad k) = none from less_same] at e; cases e
    · rw [show (T.thaw k).H0 a = T.H0 a from less_ne ha] at e; exact R.df a u e
  · by_cases hj : k = j
    · subst hj
      rw [List.getElem?_set_self hk] at e
      cases e
      exact ⟨if_pos rfl, vs, R.h0 _ _ h1, h2.less h1 hd⟩
    · rw [List.getElem?_set_ne hj] at e
      have hnl := hn j r (fun z => hj z.symm) e
      have q := R.rs j r e
      cases r with
      | off => trivial
      | lst es =>
        obtain ⟨q1, ws, q2, q3⟩ := q
        exact ⟨ho _ _ q1, ws, q2, q3.less h1 hnl⟩
      | dT es =>
        obtain ⟨q1, ws, q2, q3⟩ := q
        exact ⟨ho _ _ q1, ws, q2, q3.less h1 hnl⟩
      | dK es =>
        obtain ⟨q1, ws, q2, q3⟩ := q
        exact ⟨ho _ _ q1, ws, q2, q3.less h1 hnl⟩
      | ins C es =>
        obtain ⟨q1, dx, fs, q2, q3, q4, q5⟩ := q
        exact ⟨ho _ _ q1, dx, fs, ho _ _ q2, q3, q4, q5.less h1 hnl⟩
      | frz d => exact Rp.less h1 q hnl
      | tray κ n =>
        obtain ⟨q1, q2⟩ := q
        exact ⟨ho _ _ q1, q2.keep q1 fun a ha => ⟨ho _ _ ha, fun _ z => z⟩⟩
      | lstR _ => cases hnl
      | dKR _ => cases hnl
      | exc _ _ => cases hnl
  · have e1 := R.tu a xs e
    have ha : a ≠ T.ad k := fun z => by rw [z, h1] at e1; cases e1
    exact (less_ne ha).trans e1
section
variable {X : Cx} {sl : Sl} {rs : List Res} {Q : EQ} {e : Expr} {k : Nat}
/-- a list of ours is handed to what only reads it; what comes back holds no list -/
theorem ew_lend {ds : List Da} (h : rs[k]? = some (.lst ds)) (hd : noLs ds = true) (he : EW X sl e (rs.set k (.frz (.lst ds))) fun r rs' => ∃ d, r = .sh d ∧ noL d = true ∧ rs'[k]? = some (.frz (.lst ds)) ∧ (∀ j r, j ≠ k → rs'[j]? = some r → r.noL = true) ∧ Q (.sh d) (rs'.set k (.lst ds))) : EW X sl e rs Q := by
  refine ⟨fun T σ H R S => ?_⟩
  obtain ⟨o1, vs0, _, _⟩ := R.rs k _ h
  obtain ⟨d1, _, _⟩ := R.dj _ _ o1
  have hk : k < T.n := R.lt h
  obtain ⟨T', l1, R1⟩ := R.freeze h
  refine (he.go T' σ H R1 (S.le l1)).mono ?_
  rintro v H' ⟨T2, rs', r, l2, R2, q1, d, rfl, n1, e1, n2, q⟩
  obtain ⟨R3, vs, z⟩ := R2.thaw e1 hd n2
  have l := l1.trans l2
  have ea : T2.ad k = T.ad k := l.ad k hk
  refine ⟨T2.thaw k, _, _, ⟨fun a o x => ?_, l.fr, l.n, l.ad⟩, R3, ?_, q⟩
  · have ha : a ≠ T2.ad k := fun y => by rw [y, ea, d1] at x; cases x
    exact (less_ne ha).trans (l.h0 a o x)
  · exact Rp.less z q1 n1
end
/-! ## a def that hands back a new list -/
def ctFM {α : Type} (pre : α → Prop) (arg : α → List Da) (res : α → List Da) : Ct := fun as rs Q => ∃ a, as = (arg a).map .sh ∧ rs = [] ∧ pre a ∧ Q (.rf 0) [.lst (res a)]
theorem ctFM_mono {α : Type} {pre : α → Prop} {arg : α → List Da} {res : α → List Da} : Mono (ctFM pre arg res) := fun as rs P Q k ⟨a, h1, h2, h3, q⟩ => ⟨a, h1, h2, h3, k _ _ q⟩
theorem kc_FM {α : Type} {pre : α → Prop} {arg : α → List Da} {res : α → List Da} {as : List Rv} {rs : List Res} {Q : EQ} (a : α) (h : Shs rs as (arg a)) (hp : pre a) (q : Q (.rf rs.length) (rs ++ [.lst (res a)])) : Kc (ctFM pre arg res) as rs Q :=
  .pure h ⟨a, rfl, rfl, hp, rfl, by show Q (.rf (rs.length + 0)) _; exact q⟩
theorem sp_FM {K : PySem.W.Frag} {α : Type} {pre : α → Prop} {arg : α → List Da} {res : α → List Da} : ∀ (vs : List V) (H : Hp) (Q : VK) (E : XK), cSp K (ctF pre arg fun a => .lst (res a)) vs H Q E → cSp K (ctFM pre arg res) vs H Q E := by
  rintro vs H Q E ⟨T, rs, as, R, p, a, e1, e2, e3, q⟩
  subst e2
  refine ⟨T, [], as, R, p, a, e1, rfl, e3, fun v T' H' l R' rv => ?_⟩
  obtain ⟨T2, l2, R2⟩ := R'.freeze (k := 0) rfl
  have hn : T.n = 0 := R.n.symm
  have q1 : Rp K T2.H0 (.ref (T2.ad 0)) (.lst (res a)) := R2.rs 0 _ rfl
  obtain ⟨T3, l3, R3, e4, _, _⟩ := R2.trim (T0 := T) (m := 0) (l.trans l2) (by omega) (Nat.zero_le _) rfl
  have lt0 : 0 < T'.n := R'.lt (k := 0) rfl
  refine q v T3 H' l3 R3 ?_
  show Rp K T3.H0 v _
  rw [e4, rv.2, ← l2.ad 0 lt0]
  exact q1
end DL

set_option Elab.async false
set_option linter.all false
set_option maxRecDepth 100000
set_option maxHeartbeats 4000000
namespace DL
open PySem PySem.Spec L2
open PyProof.Rows hiding St
/-! ## a[b] by values, whatever a is -/
def xvS (X : Cx) : R2 := fun x y H Q => ∀ (value slice : Expr) (pins : List (Addr × Obj)) (s : Shared) (σ : L2.St) (v u : Value), Inv X pins σ H s → RelV x v → RelV y u → subscripted slice false v u = operate [v, u] (getItem v u) → wpAny (model X.prog X.w) X.A (subscriptTail value slice v u) (EP X pins σ Q) X.xe s
theorem ix_S {X : Cx} : IxR X (xvS X) := fun value slice pins s σ H x y v u Q I rx ry h hs => h value slice pins s σ v u I rx ry hs
theorem xvS.of {X : Cx} {r : R2} (h : IxR X r) {x y : V} {H : Hp} {Q : VK} (q : r x y H Q) : xvS X x y H Q := fun value slice pins s σ v u I rx ry hs => h value slice pins s σ H x y v u Q I rx ry q hs
theorem xvS.mono {X : Cx} {x y : V} {H : Hp} {P Q : VK} (k : ∀ v H', P v H' → Q v H') (h : xvS X x y H P) : xvS X x y H Q := fun value slice pins s σ v u I rx ry hs => thn (h value slice pins s σ v u I rx ry hs) fun _ _ ⟨v, H', a, b, c⟩ => ⟨v, H', a, b, k v H' c⟩
structure XV (X : Cx) (r1 r2 : Rv) (rs : List Res) (Q : EQ) : Prop where
  go : ∀ T H v1 v2, RepH X.K T rs H → RpV X.K T v1 r1 → RpV X.K T v2 r2 → xvS X v1 v2 H (EPost X.K T Q)
section
variable {X : Cx} {sl : Sl} {rs : List Res} {Q : EQ} {a b : Expr} {pos : Pos} {r1 r2 : Rv}
theorem ew_sub (h : EW X sl a rs fun r1 rs1 => EW X sl b rs1 fun r2 rs2 => XV X r1 r2 rs2 Q) (hp : PlainIx b := by exact (fun _ _ => rfl)) : EW X sl (.Subscript a b pos) rs Q :=
  ixR_of ix_S hp h (fun T H v1 v2 r1 r2 rs2 P R p1 p2 => P.go T H v1 v2 R p1 p2) fun v1 v2 H P Q k q => xvS.mono k q
theorem xv_ix (h : IxD rs Q r1 r2) : XV X r1 r2 rs Q := ⟨fun T H v1 v2 R p1 p2 => by
  refine xvS.of ix_seq ?_
  cases h with
  | seq w e q =>
    obtain ⟨p, vs, u, e1, hs, e2, rp⟩ := w.item R p1 e
    rcases hs with hs | hs
    · exact .inl ⟨p, vs, _, u, e1, intOf p2, hs, e2, epost R (r := .sh _) rp (q _ rfl)⟩
    · exact .inr (.inl ⟨p, vs, _, u, e1, intOf p2, hs, e2, epost R (r := .sh _) rp (q _ rfl)⟩)
  | str hl e q => exact .inr (.inr ⟨_, _, _, strOf p1, intOf p2, Nat.le_trans hl (by decide), e, epost R (r := .sh (.str _)) (.str _) q⟩)⟩
theorem xv_seq {ds : List Da} {i : Int} {d : Da} (w : VwSeq rs r1 ds) (h : atI ds i = some d) (q : Q (.sh d) rs) : XV X r1 (.sh (.int i)) rs Q :=
  xv_ix (.seq w h fun r' e => by rw [e]; exact q)
theorem xv_str {x : Str} {i : Int} {c : Nat} (hl : x.length ≤ 1000000) (h : atI x.cps.toList i = some c) (q : Q (.sh (.str ⟨#[c]⟩)) rs) : XV X (.sh (.str x)) (.sh (.int i)) rs Q :=
  xv_ix (.str hl h q)
/-- items of a written tuple -/
theorem xv_t0 {d : Da} {ds : List Da} (q : Q (.sh d) rs) : XV X (.sh (.tup (d :: ds))) (.sh (.int 0)) rs Q := xv_seq (.tup (.sh _)) (atI_nat (j := 0) rfl) q
theorem xv_t1 {d0 d : Da} {ds : List Da} (q : Q (.sh d) rs) : XV X (.sh (.tup (d0 :: d :: ds))) (.sh (.int 1)) rs Q := xv_seq (.tup (.sh _)) (atI_nat (j := 1) rfl) q
theorem xv_t2 {d0 d1 d : Da} {ds : List Da} (q : Q (.sh d) rs) : XV X (.sh (.tup (d0 :: d1 :: d :: ds))) (.sh (.int 2)) rs Q := xv_seq (.tup (.sh _)) (atI_nat (j := 2) rfl) q
theorem xv_l0 {d : Da} {ds : List Da} (q : Q (.sh d) rs) : XV X (.sh (.lst (d :: ds))) (.sh (.int 0)) rs Q := xv_seq (.lst (.sh _)) (atI_nat (j := 0) rfl) q
theorem xv_l1 {d0 d : Da} {ds : List Da} (q : Q (.sh d) rs) : XV X (.sh (.lst (d0 :: d :: ds))) (.sh (.int 1)) rs Q := xv_seq (.lst (.sh _)) (atI_nat (j := 1) rfl) q
theorem xv_dT {kvs : List (List Key × Da)} {ks : List Da} {kk : List Key} {d : Da} (hu : Un X) (w : Vw rs r1 (.dT kvs)) (hk : keyDs ks = some kk) (hv : valD kvs kk = some d) (q : Q (.sh d) rs) : XV X r1 (.sh (.tup ks)) rs Q := ⟨fun T H v1 v2 R p1 p2 => by
  refine xvS.of (ix_dict (by have := hu; unfold Un at this; omega)) ?_
  obtain ⟨ad, kv, e2, hd, rt⟩ := w.dTv R p1
  obtain ⟨p, e1, hp⟩ := key_at R p2 hk
  obtain ⟨v, ev, rv⟩ := (rt.val kk).some_of hv
  subst e1 e2
  have g := DGet.t (k := kk) hd hp
  rw [ev] at g
  exact ⟨ad, v, rfl, g, epost R (r := .sh d) rv q⟩⟩
theorem xv_R {k : Nat} {rr : List Rv} {i : Int} {r : Rv} (e2 : rs[k]? = some (.lstR rr)) (e4 : atI rr i = some r) (q : Q r rs) : XV X (.rf k) (.sh (.int i)) rs Q := ⟨fun T H v1 v2 R p1 p2 => by
  refine xvS.of ix_list ?_
  obtain ⟨ho, vs, h2, h3⟩ := R.rs _ _ e2
  have : ∃ u, atI vs i = some u ∧ RpV X.K T u r := by
    unfold atI at e4 ⊢
    rw [h3.len]
    cases e : ixN rr.length i with
    | none => rw [e] at e4; cases e4
    | some j => rw [e] at e4; exact rpvs_get h3 e4
  obtain ⟨u, h4, h5⟩ := this
  exact ⟨_, vs, i, u, p1.2, intOf p2, SqL.of h2, h4, epost R h5 q⟩⟩
/-! ## + by values, list or text -/
theorem iw_str' {tg : Expr} {e : Expr} {Q : IQ} {x : Str} (h : EW X sl e rs fun r rs1 => r = .sh (.str x) ∧ Q (signsD x) rs1) : IW X sl tg e rs Q := iw_str (h.mono fun _ _ ⟨a, b⟩ => ⟨x, a, b⟩)
end
end DL

set_option Elab.async false
set_option linter.all false
set_option maxRecDepth 100000
set_option maxHeartbeats 4000000
namespace DL
open PySem PySem.Spec L2
open PyProof.Rows hiding St
/-! ## more rules -/
abbrev Un2 (X : Cx) : Prop := X.A.units + 150 < cLine
theorem un2_of {k : Nat} {A : Around} (r : Room k A) : A.units + 150 < cLine := by have := r.un; omega
/-! ### key tuples compared -/
def okK : List Key → Bool
  | [] => true
  | .inl _ :: r => okK r
  | .inr x :: r => PySem.PyData.strOk x && okK r
theorem okDs_kD : ∀ {n : Nat} {ks : List Key}, okK ks = true → okDs n (ks.map kD) = true
  | n, [], _ => by simp [okDs]
  | n, .inl i :: r, h => by
    rw [List.map_cons]
    unfold okK at h
    show (okD n (.int i) && okDs n (r.map kD)) = true
    rw [okDs_kD h]; simp [okD]
  | n, .inr x :: r, h => by
    rw [List.map_cons]
    unfold okK at h
    rw [Bool.and_eq_true] at h
    show (okD n (.str x) && okDs n (r.map kD)) = true
    rw [okDs_kD h.2]
    simp [okD, h.1]
theorem okD_tK {n : Nat} {ks : List Key} (h : okK ks = true) : okD (n + 1) (tK ks) = true := by
  show okDs n (ks.map kD) = true
  exact okDs_kD h
theorem eqvAll_kD : ∀ ks ls : List Key, PyData.eqvAll (toPys (ks.map kD)) (toPys (ls.map kD)) = decide (ks = ls)
  | [], [] => rfl
  | [], l :: ls => by simp [toPys, PyData.eqvAll]
  | k :: ks, [] => by simp [toPys, PyData.eqvAll]
  | k :: ks, l :: ls => by
    rw [List.map_cons, List.map_cons]
    show PyData.eqvAll (toPy (kD k) :: toPys (ks.map kD)) (toPy (kD l) :: toPys (ls.map kD)) = _
    rw [PyData.eqvAll, eqvAll_kD ks ls]
    have e : PyData.eqv (toPy (kD k)) (toPy (kD l)) = decide (k = l) := by
      cases k <;> cases l <;> simp [kD, toPy, PyData.eqv] <;> rfl
    rw [e]
    by_cases h1 : k = l <;> by_cases h2 : ks = ls <;> simp [h1, h2]
theorem eqD_tK (ks ls : List Key) : eqD (tK ks) (tK ls) = decide (ks = ls) := by
  show PyData.eqv (.tuple (toPys (ks.map kD))) (.tuple (toPys (ls.map kD))) = _
  rw [PyData.eqv, eqvAll_kD]
theorem any_toPys (d : Da) : ∀ ds : List Da, ((toPys ds).any fun z => PyData.eqv z (toPy d)) = ds.any fun z => eqD z d
  | [] => rfl
  | z :: ds => by show (PyData.eqv (toPy z) (toPy d) || (toPys ds).any fun z => PyData.eqv z (toPy d)) = _; rw [any_toPys d ds]; rfl
theorem toPys_get : ∀ {ds : List Da} {j : Nat}, (toPys ds)[j]? = (ds[j]?).map toPy
  | [], j => by simp [toPys]
  | d :: ds, 0 => by simp [toPys]
  | d :: ds, j + 1 => by simp [toPys]; exact toPys_get
section
variable {X : Cx} {sl : Sl} {rs : List Res} {Q : EQ} {e a b c o : Expr} {es : List Expr} {pos : Pos} {r1 r2 : Rv} {k : Nat}
/-- in a list, by data -/
theorem bv_inD {n m : Nat} {d : Da} {ds : List Da} (hu : Un2 X) (w1 : Vw rs r1 d) (w2 : Vw rs r2 (.lst ds)) (h1 : okD n d = true) (h2 : okD m (.lst ds) = true) (q : Q (.sh (.bl (ds.any fun z => eqD z d))) rs) (hn : n ≤ 64 := by decide) (hm : m ≤ 64 := by decide) : BV X (compareOp .In) r1 r2 rs Q :=
  bv_of (op_inD (by have := hu; unfold Un2 at this; omega)) fun T H v1 v2 R p1 p2 => by
    refine ⟨toPy d, toPys ds, dp_of (w1.rp R p1) h1, ?_, okD_shaped h1 hn, ?_, ?_⟩
    · have q2 := dp_of (w2.rp R p2) h2
      unfold toPy at q2; exact q2
    · have q2 := okD_shaped h2 hm
      unfold toPy at q2; exact q2
    · rw [any_toPys]; exact epost R (r := .sh (.bl _)) (.bl _) q
theorem bv_ninD {n m : Nat} {d : Da} {ds : List Da} (hu : Un2 X) (w1 : Vw rs r1 d) (w2 : Vw rs r2 (.lst ds)) (h1 : okD n d = true) (h2 : okD m (.lst ds) = true) (q : Q (.sh (.bl (!ds.any fun z => eqD z d))) rs) (hn : n ≤ 64 := by decide) (hm : m ≤ 64 := by decide) : BV X (compareOp .NotIn) r1 r2 rs Q :=
  bv_of (op_notInD (by have := hu; unfold Un2 at this; omega)) fun T H v1 v2 R p1 p2 => by
    refine ⟨toPy d, toPys ds, dp_of (w1.rp R p1) h1, ?_, okD_shaped h1 hn, ?_, ?_⟩
    · have q2 := dp_of (w2.rp R p2) h2
      unfold toPy at q2; exact q2
    · have q2 := okD_shaped h2 hm
      unfold toPy at q2; exact q2
    · rw [any_toPys]; exact epost R (r := .sh (.bl _)) (.bl _) q
theorem okD_kss {m : Nat} {kss : List (List Key)} (h : ∀ ks ∈ kss, okK ks = true) : okD (m + 2) (.lst (kss.map tK)) = true := by
  show okDs (m + 1) (kss.map tK) = true
  exact okDs_all fun d hd => by
    obtain ⟨ks, hk, rfl⟩ := List.mem_map.mp hd
    exact okD_tK (h ks hk)
def memK (ks : List Key) (kss : List (List Key)) : Bool := kss.any fun z => decide (z = ks)
theorem memK_iff {ks : List Key} {kss : List (List Key)} : memK ks kss = true ↔ ks ∈ kss := by
  unfold memK
  rw [List.any_eq_true]
  constructor
  · rintro ⟨z, h1, h2⟩
    rw [← of_decide_eq_true h2]; exact h1
  · exact fun h => ⟨ks, h, decide_eq_true rfl⟩
theorem any_tK (ks : List Key) : ∀ kss : List (List Key), ((kss.map tK).any fun z => eqD z (tK ks)) = memK ks kss
  | [] => rfl
  | l :: kss => by
    rw [List.map_cons, List.any_cons, any_tK ks kss, eqD_tK]
    rfl
theorem bv_inK {ks : List Key} {kss : List (List Key)} (hu : Un2 X) (w2 : Vw rs r2 (.lst (kss.map tK))) (h1 : okK ks = true) (h2 : ∀ ks ∈ kss, okK ks = true) (q : Q (.sh (.bl (memK ks kss))) rs) : BV X (compareOp .In) (.sh (tK ks)) r2 rs Q :=
  bv_inD (n := 1) (m := 2) hu (.sh _) w2 (okD_tK h1) (okD_kss h2) (by rw [any_tK]; exact q)
theorem bv_ninK {ks : List Key} {kss : List (List Key)} (hu : Un2 X) (w2 : Vw rs r2 (.lst (kss.map tK))) (h1 : okK ks = true) (h2 : ∀ ks ∈ kss, okK ks = true) (q : Q (.sh (.bl (!memK ks kss))) rs) : BV X (compareOp .NotIn) (.sh (tK ks)) r2 rs Q :=
  bv_ninD (n := 1) (m := 2) hu (.sh _) w2 (okD_tK h1) (okD_kss h2) (by rw [any_tK]; exact q)
/-- xs.index(x) -/
theorem mv_indexD {n m j : Nat} {d z : Da} {ds : List Da} (hu : Un2 X) (w1 : Vw rs r1 (.lst ds)) (w2 : Vw rs r2 d) (h1 : okD n d = true) (h2 : okD m (.lst ds) = true) (hz : ds[j]? = some z) (he : eqD z d = true) (hno : ∀ i z', i < j → ds[i]? = some z' → eqD z' d = false) (q : Q (.sh (.int (j : Nat))) rs) (hn : n ≤ 64 := by decide) (hm : m ≤ 64 := by decide) : MV X "list.index" r1 [r2] rs Q :=
  mv_of (mt_indexD (by have := hu; unfold Un2 at this; omega)) fun T H v vs R p pp => by
    obtain ⟨w, rfl, p2⟩ := rp1 pp
    obtain ⟨ad, us, e, hs, rp⟩ := w1.lstv R p
    refine ⟨ad, w, toPy d, toPys ds, j, toPy z, e, rfl, ?_, dp_of (w2.rp R p2) h1, ?_, okD_shaped h1 hn, ?_, he, ?_, epost R (r := .sh (.int _)) (.int _) q⟩
    · have q2 := dp_of (w1.rp R p) h2
      unfold toPy at q2; rw [e] at q2; exact q2
    · have q2 := okD_shaped h2 hm
      unfold toPy at q2; exact q2
    · rw [toPys_get, hz]; rfl
    · intro i z' hi hz'
      rw [toPys_get] at hz'
      obtain ⟨y, hy, rfl⟩ := Option.map_eq_some_iff.mp hz'
      exact hno i y hi hy
theorem mv_indexK {j : Nat} {ks : List Key} {kss : List (List Key)} (hu : Un2 X) (w1 : Vw rs r1 (.lst (kss.map tK))) (h1 : okK ks = true) (h2 : ∀ ks ∈ kss, okK ks = true) (hz : kss[j]? = some ks) (hno : ∀ i, i < j → kss[i]? ≠ some ks) (q : Q (.sh (.int (j : Nat))) rs) : MV X "list.index" r1 [.sh (tK ks)] rs Q :=
  mv_indexD (n := 1) (m := 2) (z := tK ks) hu w1 (.sh _) (okD_tK h1) (okD_kss h2) (by rw [List.getElem?_map, hz]; rfl) (by rw [eqD_tK]; exact decide_eq_true rfl) (fun i z' hi hz' => by
    rw [List.getElem?_map] at hz'
    obtain ⟨ls, hl, rfl⟩ := Option.map_eq_some_iff.mp hz'
    rw [eqD_tK]
    exact decide_eq_false fun e => hno i hi (by rw [hl, e])) q
theorem cv_sum (hc : X.calm = true) {ns : List Int} (w : Vw rs r1 (.lst (ns.map Da.int))) (q : Q (.sh (.int ns.sum)) rs) : CV X (.builtin "sum") [r1] rs Q :=
  cv_of (cr_sum hc) fun T H vs R pp => by
    obtain ⟨v, rfl, p⟩ := rp1 pp
    obtain ⟨ad, us, e, hs, rp⟩ := w.lstv R p
    have e2 := rp.toInts
    subst e2
    exact ⟨ad, ns, by rw [e], hs, epost R (r := .sh (.int _)) (.int _) q⟩
theorem mv_reverse {ds : List Da} (e : rs[k]? = some (.lst ds)) (q : Q (.sh .non) (rs.set k (.lst ds.reverse))) : MV X "list.reverse" (.rf k) [] rs Q :=
  mv_of mt_reverse fun T H v vs R p p2 => by
    cases p2
    obtain ⟨ho, hk, us, h2, h3⟩ := own_lst R e
    exact ⟨_, us, p.2, rfl, h2, T, _, .sh .non, .refl T, write_lst R ho hk (rps_rev h3), .non, q⟩
theorem mv_extend {ds zs : List Da} (e : rs[k]? = some (.lst ds)) (w : Vw rs r2 (.lst zs)) (hl : ds.length + zs.length ≤ 100000) (q : Q (.sh .non) (rs.set k (.lst (ds ++ zs)))) : MV X "list.extend" (.rf k) [r2] rs Q :=
  mv_of mt_extend fun T H v vs R p pp => by
    obtain ⟨u, rfl, p2⟩ := rp1 pp
    obtain ⟨ho, hk, us, h2, h3⟩ := own_lst R e
    obtain ⟨ad, ws, e4, h4, h5⟩ := w.lstv' R p2
    exact ⟨_, ad, us, ws, p.2, by rw [e4], h2, h4, by rw [h3.len, h5.len]; exact Nat.le_trans hl (by decide), T, _, .sh .non, .refl T, write_lst R ho hk (h3.app h5), .non, q⟩
/-- xs += ys -/
theorem bv_iext {ds zs : List Da} (e : rs[k]? = some (.lst ds)) (w : Vw rs r2 (.lst zs)) (hl : ds.length + zs.length ≤ 100000) (q : Q (.rf k) (rs.set k (.lst (ds ++ zs)))) : BV X (inplaceOp .Add) (.rf k) r2 rs Q :=
  bv_of iop_ext fun T H v1 v2 R p p2 => by
    obtain ⟨ho, hk, us, h2, h3⟩ := own_lst R e
    obtain ⟨ad, ws, e4, h4, h5⟩ := w.lstv' R p2
    exact ⟨_, ad, us, ws, p.2, e4, h2, h4, by rw [h3.len, h5.len]; exact Nat.le_trans hl (by decide), T, _, .rf k, .refl T, write_lst R ho hk (h3.app h5), ⟨p.1, rfl⟩, q⟩
/-- tuple + tuple, neither empty -/
theorem bv_catT {ds zs : List Da} (h1 : ds ≠ []) (h2 : zs ≠ []) (hl : ds.length + zs.length ≤ 100000) (q : Q (.sh (.tup (ds ++ zs))) rs) : BV X (binaryOp .Add) (.sh (.tup ds)) (.sh (.tup zs)) rs Q :=
  bv_of op_catA fun T H v1 v2 R p p2 => by
    obtain ⟨a1, us, e1, q1, r1⟩ := (Vw.sh (rs := rs) _).tupv R p
    obtain ⟨a2, ws, e2, q2, r2⟩ := (Vw.sh (rs := rs) _).tupv R p2
    have n1 : us ≠ [] := fun z => h1 (by subst z; cases r1; rfl)
    have n2 : ws ≠ [] := fun z => h2 (by subst z; cases r2; rfl)
    refine ⟨a1, a2, us, ws, e1, e2, SqT.of q1, SqT.of q2, by rw [r1.len, r2.len]; exact Nat.le_trans hl (by decide), fun z => absurd z n1, fun _ z => absurd z n2, fun _ _ pp hp => ?_⟩
    obtain ⟨R2, l2⟩ := R.share (o := .tup (us ++ ws)) hp
    exact ⟨_, rs, .sh (.tup _), l2, R2, Rp.tup upd_same ((r1.app r2).mono l2.h0), q⟩
/-- t[lo:hi] of a tuple -/
theorem ew_sliceT {lo hi : Option Expr} {p2 : Pos} (h : EW X sl a rs fun r1 rs1 => OW X sl lo rs1 fun l rs2 => OW X sl hi rs2 fun u rs3 => ∃ ds, r1 = .sh (.tup ds) ∧ Q (.sh (.tup (cutD ds l u))) rs3) : EW X sl (.Subscript a (.Slice lo hi none p2) pos) rs Q :=
  ew_of (pe_slice sl_tupA pe_S po_S po_S) fun T σ H R S => then1 h R S fun T1 rs1 r1 v1 H1 l1 R1 p1 q1 => fun pins s I =>
    thn (q1.go T1 σ H1 R1 (S.le l1) pins s I) fun u s' ⟨o, H2, I2, ip, T2, rs2, l2, R2, q2⟩ => ⟨o, H2, I2, ip, fun pins s I => thn (q2.go T2 σ H2 R2 (S.le (l1.trans l2)) pins s I) fun u s' ⟨o', H3, I3, ip', T3, rs3, l3, R3, ds, e3, q3⟩ => ⟨o', H3, I3, ip', by
      subst e3
      obtain ⟨ad, vs, e, hv, rp⟩ := (Vw.sh (rs := rs3) (.tup ds)).tupv R3 (p1.le (l2.trans l3))
      refine ⟨ad, vs, e, SqT.of hv, fun hw => ?_, fun hw pp hp => ?_⟩
      · refine ⟨T3, rs3, _, l1.trans (l2.trans l3), R3, ?_, q3⟩
        have ec : cutD ds o o' = ds := by
          rw [rp.len] at hw
          unfold cutD
          rw [hw.1, hw.2]; simp
        rw [ec, ← e]
        exact p1.le (l2.trans l3)
      · obtain ⟨R4, l4⟩ := R3.share (o := .tup (cutV vs o o')) hp
        exact ⟨_, rs3, .sh (.tup _), l1.trans (l2.trans (l3.trans l4)), R4, Rp.tup upd_same ((cutV_rps rp o o').mono l4.h0), q3⟩⟩⟩
/-- xs[::-1] -/
theorem ew_revL {k2 : Nat} {p1 p2 p3 : Pos} (h : EW X sl e rs fun r rs1 => ∃ ds, Vw rs1 r (.lst ds) ∧ Q (.sh (.lst ds.reverse)) rs1) : EW X sl (.Subscript e (.Slice none none (some (.UnaryOp .USub (.Constant (.int 1) k2 p1) p2)) p3) pos) rs Q :=
  ew_of (pe_revL pe_S) fun T σ H R S => then1 h R S fun T1 rs1 r1 v1 H1 l1 R1 pp1 ⟨ds, w, q1⟩ => by
    obtain ⟨ad, vs, e, hv, rp⟩ := w.lstv R1 pp1
    refine ⟨ad, vs, e, hv, fun p hp => ?_⟩
    obtain ⟨R2, l2⟩ := R1.share (o := .lst vs.reverse) hp
    exact ⟨_, rs1, .sh (.lst _), l1.trans l2, R2, Rp.lst upd_same ((rps_rev rp).mono l2.h0), q1⟩
end
end DL
namespace DL
open PySem PySem.Spec L2
/-! ## where they stand, by the steps -/
theorem Bd.go_ij {bd : Bd} {s : Sd} (h : bd.ok) (hs : s.ok bd) : ∀ t, (s.i + bd.F s t) % bd.a.length = (bd.go s t).i ∧ (s.j + (t - bd.F s t)) % bd.b.length = (bd.go s t).j
  | 0 => ⟨by show (s.i + 0) % _ = s.i; exact Nat.mod_eq_of_lt hs.1, by show (s.j + (0 - 0)) % _ = s.j; exact Nat.mod_eq_of_lt hs.2⟩
  | t + 1 => by
    have ih := Bd.go_ij h hs t
    have hl := Bd.F_le (bd := bd) (s := s) t
    have hg : bd.go s (t + 1) = bd.tick (bd.go s t) := rfl
    rw [Bd.F_succ, hg]
    unfold Bd.tick
    cases e : bd.fst (bd.go s t)
    · rw [if_neg (by decide), if_neg (by decide)]
      refine ⟨ih.1, ?_⟩
      show _ = ((bd.go s t).j + 1) % bd.b.length
      rw [← ih.2, show s.j + (t + 1 - (bd.F s t + 0)) = s.j + (t - bd.F s t) + 1 by omega]
      exact (Nat.mod_add_mod _ _ _).symm
    · rw [if_pos rfl, if_pos rfl]
      refine ⟨?_, ?_⟩
      · show _ = ((bd.go s t).i + 1) % bd.a.length
        rw [← ih.1, ← Nat.add_assoc]
        exact (Nat.mod_add_mod _ _ _).symm
      · show _ = (bd.go s t).j
        rw [← ih.2, show t + 1 - (bd.F s t + 1) = t - bd.F s t by omega]
theorem Bd.go_i {bd : Bd} {s : Sd} (h : bd.ok) (hs : s.ok bd) (t : Nat) : (s.i + bd.F s t) % bd.a.length = (bd.go s t).i := (Bd.go_ij h hs t).1
theorem Bd.go_j {bd : Bd} {s : Sd} (h : bd.ok) (hs : s.ok bd) (t : Nat) : (s.j + (t - bd.F s t)) % bd.b.length = (bd.go s t).j := (Bd.go_ij h hs t).2
end DL
namespace DL
open PySem PySem.Spec L2
theorem lastT_ok (f : Bool) : PySem.PyData.strOk (lastT f) = true := by cases f <;> decide +kernel
theorem Sd.da_ok (s : Sd) : okD 1 s.da = true := by
  show okDs 0 [.int s.i, .int s.j, .str (lastT s.f)] = true
  simp only [okDs, okD, lastT_ok]; rfl
theorem Sd.key_ok (s : Sd) : okK s.key = true := by
  unfold Sd.key okK okK okK okK
  rw [lastT_ok]; rfl
theorem Sd.da_key (s : Sd) : s.da = tK s.key := rfl
theorem gonD_ok (bd : Bd) (s : Sd) (t : Nat) : okD 2 (gonD bd s t) = true := by
  show okDs 1 [(bd.go s t).da, .int (bd.F s t), .int ((t : Int) - bd.F s t)] = true
  have h := Sd.da_ok (bd.go s t)
  simp only [okDs, h]
  simp [okD]
theorem sum_nat : ∀ ms : List Nat, (ms.map fun m : Nat => (m : Int)).sum = ((ms.sum : Nat) : Int)
  | [] => rfl
  | m :: ms => by rw [List.map_cons, List.sum_cons, List.sum_cons, sum_nat ms, Int.natCast_add]
theorem take_sum {ms : List Nat} {k m : Nat} (h : ms[k]? = some m) : (ms.take (k + 1)).sum = (ms.take k).sum + m := by
  rw [List.take_add_one, h, List.sum_append]; simp
theorem Bd.F_one (bd : Bd) (s : Sd) : bd.F s 1 = if bd.fst s then 1 else 0 := by
  rw [Bd.F_succ, Bd.F_zero]; show 0 + _ = _; rw [Nat.zero_add]; rfl
end DL
namespace DL
open PySem PySem.Spec L2
section
variable {X : Cx} {rs : List Res} {Q : EQ} {r1 r2 : Rv}
/-- == and != of the same -/
theorem bv_eqT {n : Nat} {a : Da} (hu : X.A.units + 64 < cLine) (w1 : Vw rs r1 a) (w2 : Vw rs r2 a) (h : okD n a = true) (q : Q (.sh (.bl true)) rs) (hn : n ≤ 64 := by decide) : BV X (compareOp .Eq) r1 r2 rs Q :=
  bv_eqD hu w1 w2 h h (by rw [eqD_refl h]; exact q) hn hn
theorem bv_neF {n : Nat} {a : Da} (hu : X.A.units + 64 < cLine) (w1 : Vw rs r1 a) (w2 : Vw rs r2 a) (h : okD n a = true) (q : Q (.sh (.bl false)) rs) (hn : n ≤ 64 := by decide) : BV X (compareOp .NotEq) r1 r2 rs Q :=
  bv_neD hu w1 w2 h h (by rw [eqD_refl h]; exact q) hn hn
end
end DL
namespace DL
open PySem PySem.Spec L2
theorem rangeD0_get {n k : Nat} {d : Da} (h : (rangeD 0 n)[k]? = some d) : k < n ∧ d = .int (k : Nat) := by
  obtain ⟨h1, h2⟩ := rangeD_get h
  rw [Int.zero_add] at h2
  exact ⟨h1, h2⟩
theorem first_at {α : Type} {x : α} : ∀ {l : List α}, x ∈ l → ∃ j : Nat, l[j]? = some x ∧ ∀ i, i < j → l[i]? ≠ some x
  | [], h => nomatch h
  | y :: l, h => by
    by_cases e : y = x
    · exact ⟨0, by rw [e]; rfl, fun i hi => absurd hi (Nat.not_lt_zero i)⟩
    · have hm : x ∈ l := by
        rcases List.mem_cons.mp h with h | h
        · exact absurd h.symm e
        · exact h
      obtain ⟨j, h1, h2⟩ := first_at hm
      refine ⟨j + 1, by simpa using h1, fun i hi => ?_⟩
      match i with
      | 0 => simpa using e
      | i + 1 => simpa using h2 i (by omega)
end DL

set_option Elab.async false
set_option linter.all false
set_option maxRecDepth 100000
set_option maxHeartbeats 4000000
namespace DL
open PySem PySem.Spec L2
open PyProof.Rows hiding St
/-! ## a[lo:hi] by values -/
def svS (X : Cx) : V → Option Int → Option Int → Hp → VK → Prop := fun x lo hi H Q => ∀ (pins : List (Addr × Obj)) (s : Shared) (σ : L2.St) (v vl vu : Value) (sl : Addr), Inv X pins σ H s → RelV x v → s.heap.IsSliceOf sl vl vu .none → IsPart vl lo → IsPart vu hi →
  ∃ T id, typeLookup (.type T) "__getitem__" = pure (some (.builtin id)) ∧ s.TypeIs v T ∧ wpAny (model X.prog X.w) X.A (getItem v (.ref sl)) (EP X pins σ Q) X.xe s
theorem sl_S {X : Cx} : SlR X (svS X) := fun pins s σ H x v vl vu lo hi sl Q I rx hs pl pu h => h pins s σ v vl vu sl I rx hs pl pu
theorem svS.of {X : Cx} {r : V → Option Int → Option Int → Hp → VK → Prop} (h : SlR X r) {x : V} {lo hi : Option Int} {H : Hp} {Q : VK} (q : r x lo hi H Q) : svS X x lo hi H Q := fun pins s σ v vl vu sl I rx hs pl pu => h pins s σ H x v vl vu lo hi sl Q I rx hs pl pu q
theorem svS.mono {X : Cx} {x : V} {lo hi : Option Int} {H : Hp} {P Q : VK} (k : ∀ v H', P v H' → Q v H') (h : svS X x lo hi H P) : svS X x lo hi H Q := fun pins s σ v vl vu sl I rx hs pl pu => by
  obtain ⟨T, id, h1, h2, h3⟩ := h pins s σ v vl vu sl I rx hs pl pu
  exact ⟨T, id, h1, h2, thn h3 fun _ _ ⟨v, H', a, b, c⟩ => ⟨v, H', a, b, k v H' c⟩⟩
structure SV (X : Cx) (r1 : Rv) (lo hi : Option Int) (rs : List Res) (Q : EQ) : Prop where
  go : ∀ T H v1, RepH X.K T rs H → RpV X.K T v1 r1 → svS X v1 lo hi H (EPost X.K T Q)
section
variable {X : Cx} {sl : Sl} {rs : List Res} {Q : EQ} {e a b c o : Expr} {es : List Expr} {pos : Pos} {r1 r2 : Rv} {k : Nat}
theorem ew_slc {lo hi : Option Expr} {p2 : Pos} (h : EW X sl a rs fun r1 rs1 => OW X sl lo rs1 fun l rs2 => OW X sl hi rs2 fun u rs3 => SV X r1 l u rs3 Q) : EW X sl (.Subscript a (.Slice lo hi none p2) pos) rs Q :=
  ew_of (pe_slice sl_S pe_S po_S po_S) fun T σ H R S => then1 h R S fun T1 rs1 r1 v1 H1 l1 R1 p1 q1 => fun pins s I =>
    thn (q1.go T1 σ H1 R1 (S.le l1) pins s I) fun u s' ⟨o, H2, I2, ip, T2, rs2, l2, R2, q2⟩ => ⟨o, H2, I2, ip, fun pins s I => thn (q2.go T2 σ H2 R2 (S.le (l1.trans l2)) pins s I) fun u s' ⟨o', H3, I3, ip', T3, rs3, l3, R3, q3⟩ => ⟨o', H3, I3, ip',
      svS.mono (fun _ _ q => q.le (l1.trans (l2.trans l3))) (q3.go T3 H3 v1 R3 (p1.le (l2.trans l3)))⟩⟩
theorem sv_lst {lo hi : Option Int} {ds : List Da} (w : Vw rs r1 (.lst ds)) (q : Q (.sh (.lst (cutD ds lo hi))) rs) : SV X r1 lo hi rs Q := ⟨fun T H v R p => by
  obtain ⟨ad, vs, e, hv, rp⟩ := w.lstv R p
  refine svS.of sl_list ⟨ad, vs, e, hv, fun pp hp => ?_⟩
  obtain ⟨R4, l4⟩ := R.share (o := .lst (cutV vs lo hi)) hp
  exact ⟨_, rs, .sh (.lst _), l4, R4, Rp.lst upd_same ((cutV_rps rp lo hi).mono l4.h0), q⟩⟩
theorem sv_lstM {lo hi : Option Int} {ds : List Da} (w : Vw rs r1 (.lst ds)) (q : Q (.rf rs.length) (rs ++ [.lst (cutD ds lo hi)])) : SV X r1 lo hi rs Q := ⟨fun T H v R p => by
  obtain ⟨ad, vs, e, hv, rp⟩ := w.lstv R p
  refine svS.of sl_list ⟨ad, vs, e, hv, fun pp hp => ?_⟩
  exact ⟨_, _, .rf rs.length, T.le_more pp, make_lst R hp (cutV_rps rp lo hi), at_more R pp, q⟩⟩
theorem sv_lstK {lo hi : Option Int} {ds : List Da} (q : Q (.sh (.lst (cutD ds lo hi))) rs) : SV X (.sh (.lstK ds)) lo hi rs Q := ⟨fun T H v R p => by
  cases p with
  | lstK a rp =>
    refine svS.of sl_list ⟨_, _, rfl, R.h0.sqL a, fun pp hp => ?_⟩
    obtain ⟨R4, l4⟩ := R.share (o := .lst (cutV _ lo hi)) hp
    exact ⟨_, rs, .sh (.lst _), l4, R4, Rp.lst upd_same ((cutV_rps rp lo hi).mono l4.h0), q⟩⟩
theorem sv_str {lo hi : Option Int} {x : Str} (hl : x.length ≤ 1000000) (q : Q (.sh (.str (cutS x lo hi))) rs) : SV X (.sh (.str x)) lo hi rs Q := ⟨fun T H v R p => by
  have e := strOf p
  exact svS.of sl_str ⟨x, e, Nat.le_trans hl (by decide), epost R (r := .sh (.str _)) (.str _) q⟩⟩
theorem sv_tup {lo hi : Option Int} {ds : List Da} (q : Q (.sh (.tup (cutD ds lo hi))) rs) : SV X (.sh (.tup ds)) lo hi rs Q := ⟨fun T H v R p => by
  obtain ⟨ad, vs, e, hv, rp⟩ := (Vw.sh (rs := rs) (.tup ds)).tupv R p
  refine svS.of sl_tupA ⟨ad, vs, e, SqT.of hv, fun hw => ?_, fun hw pp hp => ?_⟩
  · refine ⟨T, rs, _, .refl T, R, ?_, q⟩
    have ec : cutD ds lo hi = ds := by
      rw [rp.len] at hw
      unfold cutD
      rw [hw.1, hw.2]; simp
    rw [ec, ← e]
    exact p
  · obtain ⟨R4, l4⟩ := R.share (o := .tup (cutV vs lo hi)) hp
    exact ⟨_, rs, .sh (.tup _), l4, R4, Rp.tup upd_same ((cutV_rps rp lo hi).mono l4.h0), q⟩⟩
/-- tuple(xs) of a list -/
theorem cv_tuple {ds : List Da} (w : Vw rs r1 (.lst ds)) (q : Q (.sh (.tup ds)) rs) : CV X (.type "tuple") [r1] rs Q :=
  cv_of call_tuple_of fun T H vs R pp => by
    obtain ⟨v, rfl, p⟩ := rp1 pp
    obtain ⟨ad, us, e, hv, rp⟩ := w.lstv R p
    refine ⟨ad, us, by rw [e], .inl ⟨hv, fun pp hp => ?_⟩⟩
    obtain ⟨R4, l4⟩ := R.share (o := .tup us) hp
    exact ⟨_, rs, .sh (.tup _), l4, R4, Rp.tup upd_same (rp.mono l4.h0), q⟩
end
/-! ## dicts with keys that are numbers and texts -/
theorem RpS.val {K : PySem.W.Frag} {H : Hp} (k : Key) : ∀ {kvs : List (Key × V)} {ds : List (Key × Da)}, RpS K H kvs ds → RpO K H (valV kvs k) (valD ds k)
  | _, _, .nil => trivial
  | _, _, .cons (k := k') r t => by
    by_cases e : k' = k
    · rw [valV_pos e, valD_pos e]; exact r
    · rw [valV_neg e, valD_neg e]; exact RpS.val k t
theorem RpS.len {K : PySem.W.Frag} {H : Hp} : ∀ {kvs : List (Key × V)} {ds : List (Key × Da)}, RpS K H kvs ds → kvs.length = ds.length
  | _, _, .nil => rfl
  | _, _, .cons _ t => by rw [List.length_cons, List.length_cons, RpS.len t]
theorem RpS.keys {K : PySem.W.Frag} {H : Hp} : ∀ {kvs : List (Key × V)} {ds : List (Key × Da)}, RpS K H kvs ds → kvs.map (·.1) = ds.map (·.1)
  | _, _, .nil => rfl
  | _, _, .cons _ t => by rw [List.map_cons, List.map_cons, RpS.keys t]
theorem RpS.app {K : PySem.W.Frag} {H : Hp} : ∀ {kvs kvs' : List (Key × V)} {ds ds' : List (Key × Da)}, RpS K H kvs ds → RpS K H kvs' ds' → RpS K H (kvs ++ kvs') (ds ++ ds')
  | _, _, _, _, .nil, s => s
  | _, _, _, _, .cons r t, s => .cons r (RpS.app t s)
theorem RpS.repl {K : PySem.W.Frag} {H : Hp} {k : Key} {v : V} {d : Da} (r : Rp K H v d) : ∀ {kvs : List (Key × V)} {ds : List (Key × Da)}, RpS K H kvs ds → RpS K H (kvs.map fun kv => if kv.1 = k then (kv.1, v) else kv) (ds.map fun kv => if kv.1 = k then (kv.1, d) else kv)
  | _, _, .nil => .nil
  | _, _, .cons (k := k') a t => by
    rw [List.map_cons, List.map_cons]
    by_cases e : k' = k
    · rw [if_pos e, if_pos e]; exact .cons r (RpS.repl r t)
    · rw [if_neg e, if_neg e]; exact .cons a (RpS.repl r t)
theorem RpS.put {K : PySem.W.Frag} {H : Hp} {k : Key} {v : V} {d : Da} (r : Rp K H v d) {kvs : List (Key × V)} {ds : List (Key × Da)} (h : RpS K H kvs ds) : RpS K H (putK kvs k v) (putD ds k d) := by
  unfold putK putD
  rw [valV_any, valD_any, (h.val k).isSome]
  split
  · exact h.repl r
  · exact h.app (.cons r .nil)
section
variable {X : Cx} {sl : Sl} {rs : List Res} {Q : EQ} {e a b c o : Expr} {es : List Expr} {pos : Pos} {r1 r2 : Rv} {k : Nat}
theorem Vw.dKv {K : PySem.W.Frag} {T : Tw} {H : Hp} {v : V} {r : Rv} {ds : List (Key × Da)} (w : Vw rs r (.dK ds)) (R : RepH K T rs H) (h : RpV K T v r) : ∃ a kvs, v = .ref a ∧ H a = some (.dK kvs) ∧ RpS K T.H0 kvs ds := by
  cases w with
  | sh => cases h with | dK a b => exact ⟨_, _, rfl, R.h0 _ _ a, b⟩
  | dK e =>
    obtain ⟨_, e2⟩ := h
    obtain ⟨_, vs, q2, q3⟩ := R.rs _ _ e
    exact ⟨_, vs, e2, q2, q3⟩
  | frz e =>
    obtain ⟨_, e2⟩ := h
    have q := R.rs _ _ e
    cases q with | dK a b => exact ⟨_, _, e2, R.h0 _ _ a, b⟩
theorem gh_frzK {K : PySem.W.Frag} {rs : List Res} {k : Nat} {ds : List (Key × Da)} (h : rs[k]? = some (.dK ds)) : Gh K rs (rs.set k (.frz (.dK ds))) := fun T H R => by
  obtain ⟨h1, kvs, h2, h3⟩ := R.rs k _ h
  have d1 := (R.dj _ _ h1).1
  exact R.freezeO (List.getElem?_eq_some_iff.mp h).1 h1 h2 (.dK upd_same (h3.mono (.new d1)))
theorem xv_dK {kvs : List (Key × Da)} {kd : Da} {kk : Key} {d : Da} (hu : Un X) (w : Vw rs r1 (.dK kvs)) (hk : keyD kd = some kk) (hv : valD kvs kk = some d) (q : Q (.sh d) rs) : XV X r1 (.sh kd) rs Q := ⟨fun T H v1 v2 R p1 p2 => by
  refine xvS.of (ix_dict (by have := hu; unfold Un at this; omega)) ?_
  obtain ⟨ad, kv, e2, hd, rt⟩ := w.dKv R p1
  have e1 := keyD_v p2 hk
  obtain ⟨v, ev, rv⟩ := (rt.val kk).some_of hv
  subst e1 e2
  have g := DGet.k (k := kk) hd
  rw [ev] at g
  exact ⟨ad, v, rfl, g, epost R (r := .sh d) rv q⟩⟩
theorem bv_inDK {kvs : List (Key × Da)} {kd : Da} {kk : Key} {bb : Bool} (hu : Un X) (w : Vw rs r2 (.dK kvs)) (hk : keyD kd = some kk) (hb : (valD kvs kk).isSome = bb) (q : Q (.sh (.bl bb)) rs) : BV X (compareOp .In) (.sh kd) r2 rs Q :=
  ⟨fun T H v1 v2 R p1 p2 pins s σ u1 u2 I i1 i2 => by
    obtain ⟨ad, kv, e2, hd, rt⟩ := w.dKv R p2
    have e1 := keyD_v p1 hk
    subst e1 e2
    cases i2
    refine d_in (by omega) I (DGet.k hd) i1 fun s' I' => ⟨.bl (valV kv kk).isSome, H, I', rfl, ?_⟩
    rw [(rt.val kk).isSome, hb]
    exact epost R (r := .sh (.bl _)) (.bl _) q⟩
theorem bv_ninDK {kvs : List (Key × Da)} {kd : Da} {kk : Key} {bb : Bool} (hu : Un X) (w : Vw rs r2 (.dK kvs)) (hk : keyD kd = some kk) (hb : (!(valD kvs kk).isSome) = bb) (q : Q (.sh (.bl bb)) rs) : BV X (compareOp .NotIn) (.sh kd) r2 rs Q :=
  ⟨fun T H v1 v2 R p1 p2 pins s σ u1 u2 I i1 i2 => by
    obtain ⟨ad, kv, e2, hd, rt⟩ := w.dKv R p2
    have e1 := keyD_v p1 hk
    subst e1 e2
    cases i2
    refine d_notIn (by omega) I (DGet.k hd) i1 fun s' I' => ⟨.bl (!(valV kv kk).isSome), H, I', rfl, ?_⟩
    rw [(rt.val kk).isSome, hb]
    exact epost R (r := .sh (.bl _)) (.bl _) q⟩
inductive IsDi (rs : List Res) : Rv → Prop
  | t {r : Rv} {kvs : List (List Key × Da)} : Vw rs r (.dT kvs) → IsDi rs r
  | k {r : Rv} {kvs : List (Key × Da)} : Vw rs r (.dK kvs) → IsDi rs r
theorem IsDi.at {K : PySem.W.Frag} {T : Tw} {H : Hp} {v : V} {r : Rv} (w : IsDi rs r) (R : RepH K T rs H) (h : RpV K T v r) : ∃ a, v = .ref a ∧ IsD H a := by
  cases w with
  | t w => obtain ⟨a, kv, e, hd, _⟩ := w.dTv R h; exact ⟨a, e, .inr ⟨kv, .inl hd⟩⟩
  | k w => obtain ⟨a, kv, e, hd, _⟩ := w.dKv R h; exact ⟨a, e, .inl ⟨kv, .inl hd⟩⟩
inductive GetD (rs : List Res) (Q : EQ) : Rv → Rv → Rv → Prop
  | t {r0 : Rv} {kvs : List (List Key × Da)} {ks : List Da} {kk : List Key} {d2 : Da} : Vw rs r0 (.dT kvs) → keyDs ks = some kk → Q (.sh ((valD kvs kk).getD d2)) rs → GetD rs Q r0 (.sh (.tup ks)) (.sh d2)
  | k {r0 : Rv} {kvs : List (Key × Da)} {kd : Da} {kk : Key} {d2 : Da} : Vw rs r0 (.dK kvs) → keyD kd = some kk → Q (.sh ((valD kvs kk).getD d2)) rs → GetD rs Q r0 (.sh kd) (.sh d2)
/-- d.get(k, x), any dict -/
theorem ew_get {o f : Expr} {apos cpos : Pos} (hu : Un X) (h : EW X sl o rs fun r0 rs1 => IsDi rs1 r0 ∧ EW X sl e rs1 fun r1 rs2 => EW X sl f rs2 fun r2 rs3 => GetD rs3 Q r0 r1 r2)
    (m1 : attributeBase o "get" X.env (eval o X.env) = eval o X.env := by rfl)
    (m2 : ((backTo cpos (starEach [e, f] X.env)).all (fun x => !x.1) && (backToKw cpos (keywordEach [] X.env)).all (fun x => x.1.isSome)
    && decide (([e, f] : List Expr).length + ([] : List Keyword).length + (if ([] : List Keyword).isEmpty then 0 else 1) < 30)) = true := by rfl)
    (m3 : (apos.endLine == cpos.line) = true := by rfl) (m4 : backTo cpos (starEach [e, f] X.env) = [(false, eval e X.env), (false, eval f X.env)] := by rfl) : EW X sl (.Call (.Attribute o "get" apos) [e, f] [] cpos) rs Q :=
  ew_of (pe_dget2 (by have := hu; unfold Un at this; omega) pe_S pe_S pe_S ⟨m1, m2, m3, m4⟩) fun T σ H R S => then1 h R S fun T1 rs1 r0 v0 H1 l1 R1 p0 ⟨w0, q1⟩ => by
    obtain ⟨ad0, e0, isd⟩ := w0.at R1 p0
    refine ⟨ad0, e0, isd, then1 q1 R1 (S.le l1) fun T2 rs2 r1 v1 H2 l2 R2 p1 q2 => then1 q2 R2 (S.le (l1.trans l2)) fun T3 rs3 r2 v2 H3 l3 R3 p2 g => ?_⟩
    cases g with
    | t w hk q =>
      obtain ⟨ad, kv, e3, hd, rt⟩ := w.dTv R3 ((p0.le l2).le l3)
      rw [e0] at e3
      cases e3
      obtain ⟨p, e4, hp⟩ := key_at R3 (p1.le l3) hk
      subst e4
      exact ⟨_, DGet.t hd hp, T3, rs3, .sh _, (l1.trans l2).trans l3, R3, (rt.val _).getD p2, q⟩
    | k w hk q =>
      obtain ⟨ad, kv, e3, hd, rt⟩ := w.dKv R3 ((p0.le l2).le l3)
      rw [e0] at e3
      cases e3
      have e4 := keyD_v (p1.le l3) hk
      subst e4
      exact ⟨_, DGet.k hd, T3, rs3, .sh _, (l1.trans l2).trans l3, R3, (rt.val _).getD p2, q⟩
/-! ### displays -/
def trsOf (X : Cx) : List (Option Expr) → List Expr → List (TE × TE)
  | some k :: ks, v :: vs => (teS X k, teS X v) :: trsOf X ks vs
  | _, _ => []
theorem pps_of {X : Cx} {pos : Pos} : ∀ {ks : List (Option Expr)} {vs : List Expr}, ks.all (·.isSome) = true → ks.length = vs.length → PPs X pos ks vs (trsOf X ks vs)
  | [], [], _, _ => pps_nil
  | [], _ :: _, _, h => by cases h
  | _ :: _, [], _, h => by cases h
  | none :: _, _ :: _, h, _ => by simp at h
  | some k :: ks, v :: vs, h, hl => pps_cons pe_S pe_S (pps_of (by simpa using h) (by simpa using hl))
structure DPW (X : Cx) (sl : Sl) (keys : List (Option Expr)) (values : List Expr) (rs : List Res) (Q : List (Key × Rv) → List Res → Prop) : Prop where
  go : ∀ T σ H, RepH X.K T rs H → SlOk X.K T sl σ → ∀ R : List (V × V) → Hp → Prop, (∀ T' rs' kr kv H', T.le T' → RepH X.K T' rs' H' → RpK X.K T' kv kr → kv.length = values.length → Q kr rs' → R (kv.map fun p => (kV p.1, p.2)) H') → tPairs (trsOf X keys values) σ H R
theorem dpw_nil {Q : List (Key × Rv) → List Res → Prop} (q : Q [] rs) : DPW X sl [] [] rs Q := ⟨fun T σ H R S F k => k T rs [] [] H (.refl T) R .nil rfl q⟩
theorem dpw_cons {Q : List (Key × Rv) → List Res → Prop} {x : Str} {j p} {ks : List (Option Expr)} {vs : List Expr} (h : EW X sl e rs fun r rs1 => DPW X sl ks vs rs1 fun kr rs2 => Q ((.inr x, r) :: kr) rs2) : DPW X sl (some (.Constant (.str x) j p) :: ks) (e :: vs) rs Q := ⟨fun T σ H R S F k => by
  show teS X _ σ H _
  have h1 : EW X sl (.Constant (.str x) j p) rs fun r rs1 => r = .sh (.str x) ∧ rs1 = rs := ew_str ⟨rfl, rfl⟩
  refine then1 h1 R S ?_
  rintro T1 rs1 r v H1 l1 R1 p1 ⟨rfl, rfl⟩
  refine then1 h R1 (S.le l1) fun T2 rs2 r2 v2 H2 l2 R2 p2 q2 => ?_
  refine q2.go T2 σ H2 R2 (S.le (l1.trans l2)) _ fun T3 rs3 kr kv H3 l3 R3 p3 hl3 q3 => ?_
  have e1 := strOf p1
  subst e1
  exact k T3 rs3 ((.inr x, r2) :: kr) ((.inr x, v2) :: kv) H3 (l1.trans (l2.trans l3)) R3 (.cons (p2.le l3) p3) (by rw [List.length_cons, List.length_cons, hl3]) q3⟩
theorem RpK.keys {K : PySem.W.Frag} {T : Tw} : ∀ {kv : List (Key × V)} {kr : List (Key × Rv)}, RpK K T kv kr → kv.map (·.1) = kr.map (·.1)
  | _, _, .nil => rfl
  | _, _, .cons _ t => by rw [List.map_cons, List.map_cons, RpK.keys t]
theorem mergeK_nodup : ∀ {more kvs : List (Key × V)}, ((kvs ++ more).map (·.1)).Nodup → mergeK kvs more = kvs ++ more
  | [], kvs, _ => by simp [mergeK]
  | p :: more, kvs, h => by
    have hv : (kvs.any fun kv => decide (kv.1 = p.1)) = false := by
      rw [List.any_eq_false]
      intro x hx e
      rw [List.map_append, List.map_cons] at h
      have := (List.nodup_append.mp h).2.2 x.1 (List.mem_map_of_mem hx) p.1 List.mem_cons_self
      exact this (of_decide_eq_true e)
    show mergeK (putK kvs p.1 p.2) more = _
    unfold putK
    rw [hv, if_neg Bool.false_ne_true, mergeK_nodup (by rw [List.append_assoc]; exact h), List.append_assoc]
    rfl
/-- what a display's pairs come to: shared, ours, or holding things of ours -/
inductive DispD (rs : List Res) (Q : EQ) : List (Key × Rv) → Prop
  | sh {kvs : List (Key × Da)} {kr : List (Key × Rv)} : kr = kvs.map (fun p => (p.1, Rv.sh p.2)) → Q (.sh (.dK kvs)) rs → DispD rs Q kr
  | own {kvs : List (Key × Da)} {kr : List (Key × Rv)} : kr = kvs.map (fun p => (p.1, Rv.sh p.2)) → Q (.rf rs.length) (rs ++ [.dK kvs]) → DispD rs Q kr
  | ref {kr : List (Key × Rv)} : Q (.rf rs.length) (rs ++ [.dKR kr]) → DispD rs Q kr
theorem rpk_sh {K : PySem.W.Frag} {T : Tw} : ∀ {kv : List (Key × V)} {kvs : List (Key × Da)}, RpK K T kv (kvs.map fun p => (p.1, Rv.sh p.2)) → RpS K T.H0 kv kvs
  | _, [], .nil => .nil
  | _, (k, d) :: r, h => by
    rw [List.map_cons] at h
    cases h with
    | cons a t => exact .cons a (rpk_sh t)
theorem RpV.fr {K : PySem.W.Frag} {T : Tw} {F : Hp} {v : V} {r : Rv} (h : RpV K T v r) : RpV K { T with Fr := F } v r := by
  cases r <;> exact h
theorem RpVs.fr {K : PySem.W.Frag} {T : Tw} {F : Hp} : ∀ {vs : List V} {r : List Rv}, RpVs K T vs r → RpVs K { T with Fr := F } vs r
  | _, _, .nil => .nil
  | _, _, .cons a t => .cons a.fr t.fr
theorem RpK.fr {K : PySem.W.Frag} {T : Tw} {F : Hp} : ∀ {vs : List (Key × V)} {r : List (Key × Rv)}, RpK K T vs r → RpK K { T with Fr := F } vs r
  | _, _, .nil => .nil
  | _, _, .cons a t => .cons a.fr t.fr
theorem ResOk.fr {K : PySem.W.Frag} {T : Tw} {F H : Hp} {k : Nat} {r : Res} (h : ResOk K T H k r) : ResOk K { T with Fr := F } H k r := by
  cases r with
  | lstR ds => obtain ⟨h1, vs, h2, h3⟩ := h; exact ⟨h1, vs, h2, h3.fr⟩
  | dKR ds => obtain ⟨h1, vs, h2, h3⟩ := h; exact ⟨h1, vs, h2, h3.fr⟩
  | _ => exact h
theorem SlOk.fr {K : PySem.W.Frag} {T : Tw} {F : Hp} {sl : Sl} {σ : L2.St} (h : SlOk K T sl σ) : SlOk K { T with Fr := F } sl σ :=
  ⟨h.len, fun i r e => let ⟨v, a, b⟩ := h.get i r e; ⟨v, a, b.fr⟩⟩
/-- a thing that only stands by is no longer told of -/
theorem RepH.unfr {K : PySem.W.Frag} {T : Tw} {F H : Hp} {rs : List Res} {p : Addr} {o : HO} (R : RepH K T rs H) (e : T.Fr = upd F p o) (f3 : F p = none) : RepH K { T with Fr := F } rs (less H p) := by
  have f1 : ∀ u, T.H0 p ≠ some u := fun u z => by
    have := R.df p u z
    rw [e, upd_same] at this; cases this
  have f2 : ∀ k, T.own p ≠ some k := fun k z => by
    have := (R.dj p k z).2.1
    rw [e, upd_same] at this; cases this
  refine ⟨R.n, fun a u z => ?_, fun a u z => ?_, fun a j z => ?_, fun a u z => ?_, fun j r z => ?_, fun a xs z => ?_⟩
  · exact (less_ne (fun y => f1 u (by rw [← y]; exact z))).trans (R.h0 a u z)
  · have ha : a ≠ p := fun y => by
      have z : F a = some u := z
      rw [y, f3] at z; cases z
    exact (less_ne ha).trans (R.fr a u (by rw [e, upd_ne ha]; exact z))
  · have ha : a ≠ p := fun y => f2 j (by rw [← y]; exact z)
    obtain ⟨d1, d2, d3⟩ := R.dj a j z
    refine ⟨d1, ?_, by rw [less_ne ha]; exact d3⟩
    rw [e, upd_ne ha] at d2; exact d2
  · have ha : a ≠ p := fun y => f1 u (by rw [← y]; exact z)
    have d2 := R.df a u z
    rw [e, upd_ne ha] at d2; exact d2
  · exact ((R.rs j r z).keep (.refl T) (R.lt z) fun a ha => ⟨ha, fun u hu => (less_ne (fun y => f2 j (by rw [← y]; exact ha))).trans hu⟩).fr
  · by_cases ha : a = p
    · rw [ha, less_same] at z; cases z
    · rw [less_ne ha] at z; exact R.tu a xs z
theorem upd_less {H : Hp} {p : Addr} {o : HO} : upd (less H p) p o = upd H p o := funext fun a => by
  by_cases ha : a = p
  · rw [ha, upd_same, upd_same]
  · rw [upd_ne ha, upd_ne ha, less_ne ha]
theorem ew_disp {keys : List (Option Expr)} {values : List Expr} (h : DPW X sl keys values rs fun kr rs1 => (kr.map (·.1)).Nodup ∧ DispD rs1 Q kr) (hall : keys.all (·.isSome) = true := by rfl) (hl : keys.length = values.length := by rfl) (h0 : keys ≠ [] := by intro z; cases z) (h15 : keys.length ≤ 15 := by decide) : EW X sl (.Dict keys values pos) rs Q :=
  ew_of (pe_disp (pps_of hall hl) hall hl h0 h15) fun T σ H R S => fun p hp => by
    have R0 : RepH X.K { T with Fr := upd T.Fr p (.dK []) } rs (upd H p (.dK [])) := by
      have Rd := R.drop (o := .dK []) hp (fun xs z => nomatch z)
      refine ⟨Rd.n, Rd.h0, fun a u e => ?_, fun a j e => ?_, fun a u e => ?_, fun j r e => ?_, Rd.tu⟩
      · by_cases ha : a = p
        · subst ha
          have e : upd T.Fr a (.dK []) a = some u := e
          rw [upd_same] at e
          rw [upd_same]; exact e
        · have e : upd T.Fr p (.dK []) a = some u := e
          rw [upd_ne ha] at e
          exact Rd.fr a u e
      · obtain ⟨d1, d2, d3⟩ := R.dj a j e
        have ha : a ≠ p := fun z => d3 (by rw [z]; exact hp)
        exact ⟨d1, (upd_ne ha).trans d2, by rw [upd_ne ha]; exact d3⟩
      · have ha : a ≠ p := fun z => by
          have := R.h0 a u e
          rw [z, hp] at this; cases this
        exact (upd_ne ha).trans (R.df a u e)
      · exact (Rd.rs j r e).fr
    have S0 : SlOk X.K { T with Fr := upd T.Fr p (.dK []) } sl σ := S.fr
    refine h.go _ σ _ R0 S0 _ fun T' rs' kr kv H' l R' pk hlen ⟨nd, dd⟩ => ?_
    have efr : T'.Fr = upd T.Fr p (.dK []) := l.fr
    have hp' : H' p = some (.dK []) := R'.fr p _ (by rw [efr]; exact upd_same)
    have f3 : T.Fr p = none := R.fr.none hp
    have R2 := R'.unfr efr f3
    have pk2 : RpK X.K { T' with Fr := T.Fr } kv kr := pk.fr
    have em : mergeK [] kv = kv := by rw [mergeK_nodup (by rw [List.nil_append, pk.keys]; exact nd), List.nil_append]
    have l2 : T.le { T' with Fr := T.Fr } := ⟨l.h0, rfl, l.n, l.ad⟩
    refine ⟨hp', kv, rfl, by rw [hlen, ← hl]; exact h15, ?_⟩
    rw [em, ← upd_less]
    cases dd with
    | @sh kvs _ e q =>
      subst e
      obtain ⟨R3, l3⟩ := R2.share (o := .dK kv) less_same
      exact ⟨_, rs', .sh (.dK kvs), l2.trans l3, R3, Rp.dK upd_same ((rpk_sh pk2).mono l3.h0), q⟩
    | @own kvs _ e q =>
      subst e
      refine ⟨_, _, .rf rs'.length, l2.trans (Tw.le_more _ p), R2.make (r := .dK kvs) less_same ⟨?_, kv, ?_, (rpk_sh pk : RpS X.K T'.H0 kv kvs)⟩, at_more R2 p, q⟩
      · show (if (if T'.n = T'.n then p else T'.ad T'.n) = p then some T'.n else _) = _; rw [if_pos rfl, if_pos rfl]
      · show upd _ p (.dK kv) (if T'.n = T'.n then p else T'.ad T'.n) = _; rw [if_pos rfl]; exact upd_same
    | ref q =>
      refine ⟨_, _, .rf rs'.length, l2.trans (Tw.le_more _ p), R2.make (r := .dKR kr) less_same ⟨?_, kv, ?_, pk2.le (Tw.le_more _ p)⟩, at_more R2 p, q⟩
      · show (if (if T'.n = T'.n then p else T'.ad T'.n) = p then some T'.n else _) = _; rw [if_pos rfl, if_pos rfl]
      · show upd _ p (.dK kv) (if T'.n = T'.n then p else T'.ad T'.n) = _; rw [if_pos rfl]; exact upd_same
end
end DL

set_option Elab.async false
set_option linter.all false
set_option maxRecDepth 100000
set_option maxHeartbeats 4000000
namespace DL
open PySem PySem.Spec L2
/-! ## rounds exchanged; rules without other; rules of other alone -/
def owS (w : Str) : Str := if w = "first" then "second" else if w = "second" then "first" else "other"
theorem owS_last (f : Bool) : owS (lastT f) = lastT (!f) := by cases f <;> decide +kernel
theorem owS_isW {w : Str} (h : isW w) : isW (owS w) := by
  rcases h with e | e | e <;> subst e
  · exact .inr (.inl (by decide +kernel))
  · exact .inl (by decide +kernel)
  · exact .inr (.inr (by decide +kernel))
theorem isW_ne : ("first" : Str) ≠ "second" ∧ ("first" : Str) ≠ "other" ∧ ("second" : Str) ≠ "other" := by decide +kernel
def Sd.swap (s : Sd) : Sd := ⟨s.j, s.i, !s.f⟩
def swapR (r : RowT) : RowT := (r.2.1, r.1, owS r.2.2)
def Bd.swap (bd : Bd) : Bd := ⟨bd.b, bd.a, bd.rows.map swapR⟩
theorem lookR_isW {rows : List RowT} (h : ∀ r ∈ rows, isW r.2.2) (x y : Str) : isW (lookR rows x y) := by
  unfold lookR
  cases e : rows.find? fun r => decide (r.1 = x ∧ r.2.1 = y) with
  | none => exact .inr (.inr rfl)
  | some r => exact h r (List.mem_of_find?_eq_some e)
theorem lookR_swap (x y : Str) : ∀ rows : List RowT, lookR (rows.map swapR) y x = owS (lookR rows x y)
  | [] => by show ("other" : Str) = owS "other"; decide +kernel
  | r :: rows => by
    have ih := lookR_swap x y rows
    unfold lookR at ih ⊢
    rw [List.map_cons, List.find?_cons, List.find?_cons]
    by_cases h : r.1 = x ∧ r.2.1 = y
    · rw [decide_eq_true h, decide_eq_true (show (swapR r).1 = y ∧ (swapR r).2.1 = x from ⟨h.2, h.1⟩)]
      rfl
    · rw [decide_eq_false h, decide_eq_false (show ¬ ((swapR r).1 = y ∧ (swapR r).2.1 = x) from fun z => h ⟨z.2, z.1⟩)]
      exact ih
theorem swap_nodup : ∀ {rows : List RowT}, (rows.map fun r => (r.1, r.2.1)).Nodup → ((rows.map swapR).map fun r => (r.1, r.2.1)).Nodup
  | [], _ => List.nodup_nil
  | r :: rows, h => by
    rw [List.map_cons] at h
    rw [List.map_cons, List.map_cons]
    have h1 := List.nodup_cons.mp h
    refine List.nodup_cons.mpr ⟨fun hm => h1.1 ?_, swap_nodup h1.2⟩
    obtain ⟨q, hq, e⟩ := List.mem_map.mp hm
    obtain ⟨q', hq', rfl⟩ := List.mem_map.mp hq
    refine List.mem_map.mpr ⟨q', hq', ?_⟩
    have e : ((q'.2.1, q'.1) : Str × Str) = (r.2.1, r.1) := e
    obtain ⟨e1, e2⟩ := Prod.mk.inj e
    show (q'.1, q'.2.1) = (r.1, r.2.1)
    rw [e1, e2]
theorem RowsOk.swap {rows : List RowT} (h : RowsOk rows) : RowsOk (rows.map swapR) :=
  ⟨swap_nodup h.nd, fun r hr => by
    obtain ⟨q, hq, rfl⟩ := List.mem_map.mp hr
    exact owS_isW (h.ws q hq), by rw [List.length_map]; exact h.len⟩
theorem Bd.ok.swap {bd : Bd} (h : bd.ok) : bd.swap.ok := ⟨h.b1, h.b2, h.a1, h.a2, h.rows.swap⟩
theorem Sd.ok.swap {bd : Bd} {s : Sd} (h : s.ok bd) : s.swap.ok bd.swap := ⟨h.2, h.1⟩
theorem Bd.wd_isW {bd : Bd} (h : bd.ok) (i j : Nat) : isW (bd.wd i j) := lookR_isW h.rows.ws _ _
theorem Bd.wd_swap (bd : Bd) (i j : Nat) : bd.swap.wd j i = owS (bd.wd i j) := lookR_swap _ _ _
theorem Bd.fst_swap {bd : Bd} (h : bd.ok) (s : Sd) : bd.swap.fst s.swap = !bd.fst s := by
  unfold Bd.fst
  rw [show bd.swap.wd s.swap.i s.swap.j = owS (bd.wd s.i s.j) from Bd.wd_swap bd s.i s.j]
  show _ = _
  rcases Bd.wd_isW h s.i s.j with e | e | e <;> rw [e]
  · rfl
  · rfl
  · show (decide (owS "other" = "first") || (decide (owS "other" = "other") && !!s.f)) = !(decide (("other" : Str) = "first") || (decide (("other" : Str) = "other") && !s.f))
    cases s.f <;> decide +kernel
theorem Bd.tick_swap {bd : Bd} (h : bd.ok) (s : Sd) : bd.swap.tick s.swap = (bd.tick s).swap := by
  unfold Bd.tick
  rw [Bd.fst_swap h]
  cases bd.fst s <;> rfl
theorem Bd.go_swap {bd : Bd} (h : bd.ok) (s : Sd) : ∀ t, bd.swap.go s.swap t = (bd.go s t).swap
  | 0 => rfl
  | t + 1 => by show bd.swap.tick (bd.swap.go s.swap t) = (bd.tick (bd.go s t)).swap; rw [Bd.go_swap h s t, Bd.tick_swap h]
theorem Bd.F_swap {bd : Bd} (h : bd.ok) (s : Sd) : ∀ t, bd.swap.F s.swap t + bd.F s t = t
  | 0 => rfl
  | t + 1 => by
    have ih := Bd.F_swap h s t
    rw [Bd.F_succ, Bd.F_succ, Bd.go_swap h, Bd.fst_swap h]
    cases bd.fst (bd.go s t) <;> simp <;> omega
/-- what is told, with the readers exchanged -/
def exD (bd : Bd) (s : Sd) (t : Nat) : Da := .tup [(bd.go s t).swap.da, .int ((t : Int) - bd.F s t), .int (bd.F s t)]
theorem exD_eq {bd : Bd} (h : bd.ok) (s : Sd) (t : Nat) : gonD bd.swap s.swap t = exD bd s t := by
  have hF := Bd.F_swap h s t
  unfold exD
  show Da.tup [(bd.swap.go s.swap t).da, .int (bd.swap.F s.swap t : Nat), .int ((t : Int) - (bd.swap.F s.swap t : Nat))] = _
  rw [Bd.go_swap h, show ((bd.swap.F s.swap t : Nat) : Int) = (t : Int) - (bd.F s t : Nat) by omega, show (t : Int) - ((t : Int) - (bd.F s t : Nat)) = (bd.F s t : Nat) by omega]
/-! ### a rule without other -/
theorem Bd.fst_plain {bd : Bd} {s u : Sd} (h : bd.wd s.i s.j ≠ "other") (ei : s.i = u.i) (ej : s.j = u.j) : bd.fst s = bd.fst u := by
  unfold Bd.fst
  rw [← ei, ← ej, decide_eq_false h]
  simp
theorem Bd.tick_plain {bd : Bd} {s u : Sd} (h : bd.wd s.i s.j ≠ "other") (ei : s.i = u.i) (ej : s.j = u.j) : bd.tick s = bd.tick u := by
  unfold Bd.tick
  rw [Bd.fst_plain h ei ej, ei, ej]
theorem Bd.go_plain {bd : Bd} {i j : Nat} {f g : Bool} (h : bd.wd i j ≠ "other") (t : Nat) : gonD bd ⟨i, j, f⟩ (t + 1) = gonD bd ⟨i, j, g⟩ (t + 1) := by
  have e1 : bd.tick ⟨i, j, f⟩ = bd.tick ⟨i, j, g⟩ := Bd.tick_plain (s := ⟨i, j, f⟩) (u := ⟨i, j, g⟩) h rfl rfl
  have e2 : bd.fst ⟨i, j, f⟩ = bd.fst ⟨i, j, g⟩ := Bd.fst_plain (s := ⟨i, j, f⟩) (u := ⟨i, j, g⟩) h rfl rfl
  have e3 : bd.go ⟨i, j, f⟩ (t + 1) = bd.go ⟨i, j, g⟩ (t + 1) := by
    rw [Nat.add_comm t 1, Bd.go_add, Bd.go_add]
    show bd.go (bd.tick ⟨i, j, f⟩) t = bd.go (bd.tick ⟨i, j, g⟩) t
    rw [e1]
  have e4 : bd.F ⟨i, j, f⟩ (t + 1) = bd.F ⟨i, j, g⟩ (t + 1) := by
    rw [Nat.add_comm t 1, Bd.F_add, Bd.F_add, Bd.F_one, Bd.F_one, e2]
    show _ + bd.F (bd.tick ⟨i, j, f⟩) t = _ + bd.F (bd.tick ⟨i, j, g⟩) t
    rw [e1]
  unfold gonD
  rw [e3, e4]
def wholeTo (g : Nat → Nat → Str) (k : Nat) : List RowT := (List.range k).flatMap fun b => (List.range 6).map fun a => (sgn a, sgn b, g a b)
theorem wholeTo_succ (g : Nat → Nat → Str) (k : Nat) : wholeTo g (k + 1) = wholeTo g k ++ (List.range 6).map fun a => (sgn a, sgn k, g a k) := by
  unfold wholeTo
  rw [show List.range (k + 1) = List.range k ++ [k] from List.range_succ, List.flatMap_append]
  simp
theorem wholeTo_mem {g : Nat → Nat → Str} {k : Nat} {r : RowT} : r ∈ wholeTo g k ↔ ∃ a b, a < 6 ∧ b < k ∧ r = (sgn a, sgn b, g a b) := by
  unfold wholeTo
  rw [List.mem_flatMap]
  constructor
  · rintro ⟨b, hb, h⟩
    obtain ⟨a, ha, rfl⟩ := List.mem_map.mp h
    exact ⟨a, b, List.mem_range.mp ha, List.mem_range.mp hb, rfl⟩
  · rintro ⟨a, b, ha, hb, rfl⟩
    exact ⟨b, List.mem_range.mpr hb, List.mem_map.mpr ⟨a, List.mem_range.mpr ha, rfl⟩⟩
theorem wholeTo_len {g : Nat → Nat → Str} : ∀ k, (wholeTo g k).length = 6 * k
  | 0 => rfl
  | k + 1 => by rw [wholeTo_succ, List.length_append, wholeTo_len k, List.length_map, List.length_range]; omega
theorem wholeTo_nd {g : Nat → Nat → Str} : ∀ k, ((wholeTo g k).map fun r => (r.1, r.2.1)).Nodup
  | 0 => List.nodup_nil
  | k + 1 => by
    rw [wholeTo_succ, List.map_append]
    refine List.nodup_append.mpr ⟨wholeTo_nd k, ?_, ?_⟩
    · rw [List.map_map]
      refine List.Pairwise.map _ (R := fun a b => a ≠ b) (fun a b hab e => hab ?_) List.nodup_range
      exact sgn_inj (congrArg Prod.fst e)
    · intro x hx y hy e
      obtain ⟨r, hr, rfl⟩ := List.mem_map.mp hx
      obtain ⟨q, hq, rfl⟩ := List.mem_map.mp hy
      obtain ⟨a, b, _, hb, rfl⟩ := wholeTo_mem.mp hr
      obtain ⟨a', _, rfl⟩ := List.mem_map.mp hq
      have e2 : sgn b = sgn k := congrArg Prod.snd e
      have := sgn_inj e2
      omega
theorem wholeTo_ok {g : Nat → Nat → Str} (h : ∀ a b, isW (g a b)) : RowsOk (wholeTo g 6) :=
  ⟨wholeTo_nd 6, fun r hr => by obtain ⟨a, b, _, _, rfl⟩ := wholeTo_mem.mp hr; exact h a b, by rw [wholeTo_len]; decide⟩
theorem chr_sgn {x : Str} {i : Nat} (h : lett x) (hi : i < x.length) : ∃ a, a < 6 ∧ chr x i = sgn a := by
  obtain ⟨c, hc, e⟩ := chr_at hi
  have := h c (atI_mem hc)
  refine ⟨c - 97, by omega, ?_⟩
  rw [e]
  unfold sgn
  rw [show 97 + (c - 97) = c by omega]
theorem whole_wd {g : Nat → Nat → Str} {x y : Str} {i j : Nat} (hx : lett x) (hy : lett y) (hi : i < x.length) (hj : j < y.length) : ∃ a b, (⟨x, y, wholeTo g 6⟩ : Bd).wd i j = g a b := by
  obtain ⟨a, ha, ea⟩ := chr_sgn hx hi
  obtain ⟨b, hb, eb⟩ := chr_sgn hy hj
  refine ⟨a, b, ?_⟩
  show lookR (wholeTo g 6) (chr x i) (chr y j) = _
  rw [ea, eb]
  exact look_row (r := (sgn a, sgn b, g a b)) (wholeTo_nd 6) (wholeTo_mem.mpr ⟨a, b, ha, hb, rfl⟩)
/-! ### a rule of other alone -/
def otherR (r : RowT) : RowT := (r.1, r.2.1, "other")
theorem look_other (x y : Str) : ∀ rows : List RowT, lookR (rows.map otherR) x y = "other"
  | [] => rfl
  | r :: rows => by
    have ih := look_other x y rows
    unfold lookR at ih ⊢
    rw [List.map_cons, List.find?_cons]
    by_cases h : (otherR r).1 = x ∧ (otherR r).2.1 = y
    · rw [decide_eq_true h]; rfl
    · rw [decide_eq_false h]; exact ih
theorem RowsOk.other {rows : List RowT} (h : RowsOk rows) : RowsOk (rows.map otherR) :=
  ⟨by rw [List.map_map]; exact h.nd, fun r hr => by obtain ⟨q, _, rfl⟩ := List.mem_map.mp hr; exact .inr (.inr rfl), by rw [List.length_map]; exact h.len⟩
theorem Bd.fst_other {bd : Bd} (h : ∀ i j, bd.wd i j = "other") (s : Sd) : bd.fst s = !s.f := by
  unfold Bd.fst
  rw [h]
  cases s.f <;> decide +kernel
theorem Bd.turns {bd : Bd} (h : ∀ i j, bd.wd i j = "other") (s : Sd) : ∀ t, bd.F s t = (if s.f then t / 2 else (t + 1) / 2) ∧ (bd.go s t).f = (if t % 2 = 0 then s.f else !s.f)
  | 0 => by refine ⟨?_, rfl⟩; cases s.f <;> rfl
  | t + 1 => by
    obtain ⟨h1, h2⟩ := Bd.turns h s t
    have e : bd.fst (bd.go s t) = !(bd.go s t).f := Bd.fst_other h _
    rw [Bd.F_succ, h1, e]
    refine ⟨?_, ?_⟩
    · rw [h2]
      rcases Nat.mod_two_eq_zero_or_one t with m | m <;> cases s.f <;> simp [m] <;> omega
    · show (bd.tick (bd.go s t)).f = _
      rw [Bd.tick_f, e, h2]
      rcases Nat.mod_two_eq_zero_or_one t with m | m
      · rw [if_pos m, if_neg (by omega)]
      · rw [if_neg (by omega), if_pos (by omega)]; simp
end DL
namespace DL
open PySem PySem.Spec L2
theorem signs_six {i : Nat} {d : Da} (h : (signsD "abcdef")[i]? = some d) : i < 6 ∧ d = .str (sgn i) := by
  have h6 : i < 6 := by have := (List.getElem?_eq_some_iff.mp h).1; rw [signsD_len] at this; exact this
  refine ⟨h6, ?_⟩
  match i, h with
  | 0, h => cases h; rfl
  | 1, h => cases h; rfl
  | 2, h => cases h; rfl
  | 3, h => cases h; rfl
  | 4, h => cases h; rfl
  | 5, h => cases h; rfl
theorem Sle.nil : Sle [] [] := ⟨rfl, fun i r h => by simp at h⟩
theorem Sle.same {a : Option Rv} {t t' : Sl} (h : Sle t t') : Sle (a :: t) (a :: t') := ⟨by rw [List.length_cons, List.length_cons, h.1], fun i r e => by
  match i with
  | 0 => exact e
  | i + 1 => exact h.2 i r e⟩
theorem Sle.drop {a : Option Rv} {t t' : Sl} (h : Sle t t') : Sle (a :: t) (none :: t') := ⟨by rw [List.length_cons, List.length_cons, h.1], fun i r e => by
  match i with
  | 0 => cases e
  | i + 1 => exact h.2 i r e⟩
theorem Sle.refl (sl : Sl) : Sle sl sl := ⟨rfl, fun _ _ h => h⟩
def slLt (m : Nat) : Sl → Bool
  | [] => true
  | some (.rf k) :: r => decide (k < m) && slLt m r
  | _ :: r => slLt m r
theorem slLt_ok {m : Nat} : ∀ {sl : Sl}, slLt m sl = true → ∀ (i : Nat) (r : Rv), sl[i]? = some (some r) → Rv.lt m r
  | [], _, i, r, e => by simp at e
  | none :: sl, h, i, r, e => by
    match i with
    | 0 => cases e
    | i + 1 => exact slLt_ok (sl := sl) h i r e
  | some (.sh d) :: sl, h, i, r, e => by
    match i with
    | 0 => cases e; exact trivial
    | i + 1 => exact slLt_ok (sl := sl) h i r e
  | some (.rf k) :: sl, h, i, r, e => by
    have h : (decide (k < m) && slLt m sl) = true := h
    rw [Bool.and_eq_true] at h
    match i with
    | 0 => cases e; exact (show k < m from of_decide_eq_true h.1)
    | i + 1 => exact slLt_ok (sl := sl) h.2 i r e
theorem wholeTo_row (g : Nat → Nat → Str) (k : Nat) : (wholeTo g (k + 1)).map rowD = (wholeTo g k).map rowD ++ (List.range 6).map fun a => rowD (sgn a, sgn k, g a k) := by
  rw [wholeTo_succ, List.map_append, List.map_map]; rfl
end DL
namespace DL
open PySem PySem.Spec L2
def lookOr (rows : List RowT) (x y dflt : Str) : Str := ((rows.find? fun r => decide (r.1 = x ∧ r.2.1 = y)).map fun q : RowT => q.2.2).getD dflt
def cmW (b : Nat) : Str := if b = 0 then "first" else "second"
theorem cmW_or (b : Nat) : cmW b = "first" ∨ cmW b = "second" := by unfold cmW; by_cases h : b = 0 <;> simp [h]
theorem lookOr_or {rows : List RowT} (h : ∀ r ∈ rows, r.2.2 = "first" ∨ r.2.2 = "second") (x y : Str) {d : Str} (hd : d = "first" ∨ d = "second") : lookOr rows x y d = "first" ∨ lookOr rows x y d = "second" := by
  unfold lookOr
  cases e : rows.find? fun r => decide (r.1 = x ∧ r.2.1 = y) with
  | none => exact hd
  | some r => exact h r (List.mem_of_find?_eq_some e)
theorem lookOr_val (rows : List RowT) (x y d : Str) : (valD (kvR rows) [.inr x, .inr y]).getD (.str d) = .str (lookOr rows x y d) := by
  rw [valD_kvR]
  unfold lookOr
  cases rows.find? fun r => decide (r.1 = x ∧ r.2.1 = y) <;> rfl
end DL

set_option Elab.async false
set_option linter.all false
set_option maxRecDepth 100000
set_option maxHeartbeats 4000000
namespace DL
open PySem PySem.Spec L2
/-! ## boards that go alike -/
/-- bd' has the words of bd, o1 and o2 letters further, over and over -/
structure Cov (bd' bd : Bd) (o1 o2 : Nat) : Prop where
  ok' : bd'.ok
  ok : bd.ok
  d1 : ∃ m, bd'.a.length = m * bd.a.length
  d2 : ∃ m, bd'.b.length = m * bd.b.length
  wd : ∀ i j, i < bd'.a.length → j < bd'.b.length → bd'.wd i j = bd.wd ((i + o1) % bd.a.length) ((j + o2) % bd.b.length)
structure Like (bd : Bd) (o1 o2 : Nat) (s' s : Sd) : Prop where
  i : (s'.i + o1) % bd.a.length = s.i
  j : (s'.j + o2) % bd.b.length = s.j
  f : s'.f = s.f
theorem step_mod {x o n m k : Nat} (hm : k = m * n) : ((x + 1) % k + o) % n = ((x + o) % n + 1) % n := by
  subst hm
  have e1 : ((x + 1) % (m * n) + o) % n = (x + 1 + o) % n := by
    rw [Nat.add_mod, Nat.mod_mul_left_mod, ← Nat.add_mod]
  rw [e1, Nat.mod_add_mod]
  congr 1
  omega
theorem Cov.fst {bd' bd : Bd} {o1 o2 : Nat} (C : Cov bd' bd o1 o2) {s' s : Sd} (h' : s'.ok bd') (L : Like bd o1 o2 s' s) : bd'.fst s' = bd.fst s := by
  unfold Bd.fst
  rw [C.wd _ _ h'.1 h'.2, L.i, L.j, L.f]
theorem Cov.tick {bd' bd : Bd} {o1 o2 : Nat} (C : Cov bd' bd o1 o2) {s' s : Sd} (h' : s'.ok bd') (L : Like bd o1 o2 s' s) : Like bd o1 o2 (bd'.tick s') (bd.tick s) := by
  unfold Bd.tick
  rw [C.fst h' L]
  obtain ⟨m1, e1⟩ := C.d1
  obtain ⟨m2, e2⟩ := C.d2
  cases bd.fst s
  · exact ⟨L.i, by show ((s'.j + 1) % bd'.b.length + o2) % bd.b.length = _; rw [step_mod e2, L.j]; rfl, rfl⟩
  · exact ⟨by show ((s'.i + 1) % bd'.a.length + o1) % bd.a.length = _; rw [step_mod e1, L.i]; rfl, L.j, rfl⟩
theorem Cov.go {bd' bd : Bd} {o1 o2 : Nat} (C : Cov bd' bd o1 o2) {s' s : Sd} (h' : s'.ok bd') (L : Like bd o1 o2 s' s) : ∀ t, Like bd o1 o2 (bd'.go s' t) (bd.go s t) ∧ bd'.F s' t = bd.F s t
  | 0 => ⟨L, rfl⟩
  | t + 1 => by
    obtain ⟨h1, h2⟩ := Cov.go C h' L t
    have hg := Bd.go_ok C.ok' h' t
    exact ⟨C.tick hg h1, by rw [Bd.F_succ, Bd.F_succ, h2, C.fst hg h1]⟩
/-! ### letters -/
theorem chr_get {x : Str} {i c : Nat} (h : (tl x)[i]? = some c) : chr x i = ⟨#[c]⟩ := by unfold chr; rw [show x.cps.toList[i]? = some c from h]
theorem tl_len (x : Str) : (tl x).length = x.length := Array.length_toList
theorem chr_eq {x y : Str} {i j : Nat} (h : (tl x)[i]? = (tl y)[j]?) : chr x i = chr y j := by unfold chr; rw [show x.cps.toList[i]? = y.cps.toList[j]? from h]
theorem tl_cut (z : Str) (lo hi : Option Int) : tl (cutS z lo hi) = ((tl z).drop (HT.sIx z.length 0 lo)).take (HT.sIx z.length z.length hi - HT.sIx z.length 0 lo) := by
  unfold cutS tl; rfl
/-- letters[at:] + letters[:at] -/
def begS (x : Str) (n : Nat) : Str := cutS x (some (n : Int)) none ++ cutS x none (some (n : Int))
theorem tl_beg {x : Str} {n : Nat} (h : n ≤ x.length) : tl (begS x n) = (tl x).drop n ++ (tl x).take n := by
  unfold begS
  rw [tl_app, tl_cut, tl_cut, HT.sIx_none, HT.sIx_none, HT.sIx_nat, HT.sIx_nat, Nat.min_eq_left h, List.drop_zero, Nat.sub_zero]
  congr 1
  rw [List.take_of_length_le]
  rw [List.length_drop, tl_len]
  exact Nat.le_refl _
theorem begS_len {x : Str} {n : Nat} (h : n ≤ x.length) : (begS x n).length = x.length := by
  rw [← tl_len, tl_beg h, List.length_append, List.length_drop, List.length_take, tl_len]; omega
theorem beg_chr {x : Str} {n i : Nat} (h : n < x.length) (hi : i < x.length) : chr (begS x n) i = chr x ((i + n) % x.length) := by
  refine chr_eq ?_
  rw [tl_beg (Nat.le_of_lt h)]
  have hl := tl_len x
  by_cases hc : i < x.length - n
  · rw [List.getElem?_append_left (by rw [List.length_drop]; omega), List.getElem?_drop, Nat.mod_eq_of_lt (by omega), Nat.add_comm]
  · rw [List.getElem?_append_right (by rw [List.length_drop]; omega), List.length_drop, List.getElem?_take, if_pos (by omega)]
    congr 1
    rw [show i + n = (i - ((tl x).length - n)) + x.length by omega, Nat.add_mod_right, Nat.mod_eq_of_lt (by omega)]
theorem lett_beg {x : Str} (h : lett x) (n : Nat) : lett (begS x n) := lett_app (lett_cut h _ _) (lett_cut h _ _)
theorem foldl_list : ∀ (n : Nat) (a b : Array Nat), ((List.replicate n a).foldl (· ++ ·) b).toList = b.toList ++ (List.replicate n a.toList).flatten
  | 0, a, b => by simp
  | n + 1, a, b => by
    rw [List.replicate_succ, List.foldl_cons, foldl_list n a (b ++ a), Array.toList_append, List.replicate_succ, List.flatten_cons, List.append_assoc]
theorem tl_rep (x : Str) (n : Nat) : tl (repS x n) = (List.replicate n (tl x)).flatten := by
  unfold repS tl
  rw [foldl_list]; simp
theorem rep_get {l : List Nat} (h : 0 < l.length) : ∀ (n i : Nat), i < n * l.length → ((List.replicate n l).flatten)[i]? = l[i % l.length]?
  | 0, i, hi => by omega
  | n + 1, i, hi => by
    rw [List.replicate_succ, List.flatten_cons]
    by_cases hc : i < l.length
    · rw [List.getElem?_append_left hc, Nat.mod_eq_of_lt hc]
    · rw [List.getElem?_append_right (by omega), rep_get h n (i - l.length) (by rw [Nat.succ_mul] at hi; omega)]
      congr 1
      rw [← Nat.mod_eq_sub_mod (by omega)]
theorem rep_chr {x : Str} {n i : Nat} (h1 : 1 ≤ x.length) (h : i < n * x.length) : chr (repS x n) i = chr x (i % x.length) := by
  refine chr_eq ?_
  rw [tl_rep, rep_get (by rw [tl_len]; omega) n i (by rw [tl_len]; exact h), tl_len]
/-- letters called by other names -/
def callS (p : Nat → Nat) (x : Str) : Str := ⟨((tl x).map fun c => 97 + p (c - 97)).toArray⟩
theorem tl_call (p : Nat → Nat) (x : Str) : tl (callS p x) = (tl x).map fun c => 97 + p (c - 97) := by unfold callS tl; rfl
theorem callS_len (p : Nat → Nat) (x : Str) : (callS p x).length = x.length := by rw [← tl_len, tl_call, List.length_map, tl_len]
theorem call_chr {p : Nat → Nat} {x : Str} {i a : Nat} (h : chr x i = sgn a) (hi : i < x.length) : chr (callS p x) i = sgn (p a) := by
  have hl := tl_len x
  obtain ⟨c, hc⟩ : ∃ c, (tl x)[i]? = some c := ⟨_, List.getElem?_eq_getElem (by omega)⟩
  have e1 := chr_get hc
  rw [h] at e1
  have e2 : 97 + a = c := by unfold sgn at e1; simpa using e1
  have e3 : (tl (callS p x))[i]? = some (97 + p a) := by
    rw [tl_call, List.getElem?_map, hc, ← e2]
    show some (97 + p (97 + a - 97)) = _
    rw [Nat.add_sub_cancel_left]
  exact chr_get e3
theorem lett_call {p : Nat → Nat} (hp : ∀ a, a < 6 → p a < 6) {x : Str} (h : lett x) : lett (callS p x) := fun c hc => by
  have hc : c ∈ tl (callS p x) := hc
  rw [tl_call] at hc
  obtain ⟨b, hb, rfl⟩ := List.mem_map.mp hc
  have h1 := h b hb
  have h2 := hp (b - 97) (by omega)
  omega
/-! ### the four -/
theorem Cov.beg {x y : Str} {rows : List RowT} (h : (⟨x, y, rows⟩ : Bd).ok) {o1 o2 : Nat} (h1 : o1 < x.length) (h2 : o2 < y.length) : Cov ⟨begS x o1, begS y o2, rows⟩ ⟨x, y, rows⟩ o1 o2 := by
  have e1 := begS_len (Nat.le_of_lt h1)
  have e2 := begS_len (Nat.le_of_lt h2)
  refine ⟨⟨?_, ?_, ?_, ?_, h.rows⟩, h, ⟨1, ?_⟩, ⟨1, ?_⟩, fun i j hi hj => ?_⟩
  · show 1 ≤ (begS x o1).length; rw [e1]; exact h.a1
  · show (begS x o1).length ≤ _; rw [e1]; exact h.a2
  · show 1 ≤ (begS y o2).length; rw [e2]; exact h.b1
  · show (begS y o2).length ≤ _; rw [e2]; exact h.b2
  · show (begS x o1).length = 1 * x.length; rw [e1, Nat.one_mul]
  · show (begS y o2).length = 1 * y.length; rw [e2, Nat.one_mul]
  · have hi : i < (begS x o1).length := hi
    have hj : j < (begS y o2).length := hj
    rw [e1] at hi
    rw [e2] at hj
    show lookR rows (chr (begS x o1) i) (chr (begS y o2) j) = lookR rows (chr x _) (chr y _)
    rw [beg_chr h1 hi, beg_chr h2 hj]
theorem Cov.rep {x y : Str} {rows : List RowT} (h : (⟨x, y, rows⟩ : Bd).ok) {n1 n2 : Nat} (h1 : 1 ≤ n1) (h2 : 1 ≤ n2) (l1 : n1 * x.length ≤ 200) (l2 : n2 * y.length ≤ 200) : Cov ⟨repS x n1, repS y n2, rows⟩ ⟨x, y, rows⟩ 0 0 := by
  have hx : 1 ≤ x.length := h.a1
  have hy : 1 ≤ y.length := h.b1
  have g1 := Nat.mul_le_mul h1 hx
  have g2 := Nat.mul_le_mul h2 hy
  refine ⟨⟨?_, ?_, ?_, ?_, h.rows⟩, h, ⟨n1, repS_len _ _⟩, ⟨n2, repS_len _ _⟩, fun i j hi hj => ?_⟩
  · show 1 ≤ (repS x n1).length; rw [repS_len]; omega
  · show (repS x n1).length ≤ _; rw [repS_len]; omega
  · show 1 ≤ (repS y n2).length; rw [repS_len]; omega
  · show (repS y n2).length ≤ _; rw [repS_len]; omega
  · have hi : i < (repS x n1).length := hi
    have hj : j < (repS y n2).length := hj
    rw [repS_len] at hi hj
    show lookR rows (chr (repS x n1) i) (chr (repS y n2) j) = lookR rows (chr x _) (chr y _)
    rw [rep_chr hx hi, rep_chr hy hj]
    rfl
def metR (x y : Str) (r : RowT) : Bool := (decide (r.1 ∈ (tl x).map fun c => (⟨#[c]⟩ : Str))) && decide (r.2.1 ∈ (tl y).map fun c => (⟨#[c]⟩ : Str))
theorem look_filter (p : RowT → Bool) (x y : Str) : ∀ {rows : List RowT}, (∀ r ∈ rows, r.1 = x → r.2.1 = y → p r = true) → lookR (rows.filter p) x y = lookR rows x y
  | [], _ => rfl
  | r :: rows, h => by
    have ih := look_filter p x y (rows := rows) fun q hq => h q (List.mem_cons_of_mem _ hq)
    unfold lookR at ih ⊢
    by_cases hr : r.1 = x ∧ r.2.1 = y
    · rw [List.filter_cons_of_pos (h r List.mem_cons_self hr.1 hr.2), List.find?_cons, List.find?_cons, decide_eq_true hr]
    · rw [List.find?_cons (a := r), decide_eq_false hr]
      by_cases hp : p r = true
      · rw [List.filter_cons_of_pos hp, List.find?_cons, decide_eq_false hr]; exact ih
      · rw [List.filter_cons_of_neg hp]; exact ih
theorem chr_mem {x : Str} {i : Nat} (h : i < x.length) : chr x i ∈ (tl x).map fun c => (⟨#[c]⟩ : Str) := by
  have hl := tl_len x
  obtain ⟨c, hc⟩ : ∃ c, (tl x)[i]? = some c := ⟨_, List.getElem?_eq_getElem (by omega)⟩
  rw [chr_get hc]
  exact List.mem_map.mpr ⟨c, List.mem_of_getElem? hc, rfl⟩
theorem Cov.met {x y : Str} {rows : List RowT} (h : (⟨x, y, rows⟩ : Bd).ok) {p : RowT → Bool} (hp : ∀ r ∈ rows, metR x y r = true → p r = true) : Cov ⟨x, y, rows.filter p⟩ ⟨x, y, rows⟩ 0 0 := by
  have hr : RowsOk rows := h.rows
  refine ⟨⟨h.a1, h.a2, h.b1, h.b2, ⟨List.Nodup.sublist (List.Sublist.map _ List.filter_sublist) hr.nd, fun r hr' => hr.ws r (List.mem_filter.mp hr').1, Nat.le_trans (List.length_filter_le _ _) hr.len⟩⟩, h, ⟨1, (Nat.one_mul _).symm⟩, ⟨1, (Nat.one_mul _).symm⟩, fun i j hi hj => ?_⟩
  have hi : i < x.length := hi
  have hj : j < y.length := hj
  show lookR (rows.filter p) (chr x i) (chr y j) = lookR rows (chr x ((i + 0) % x.length)) (chr y ((j + 0) % y.length))
  rw [Nat.add_zero, Nat.add_zero, Nat.mod_eq_of_lt hi, Nat.mod_eq_of_lt hj]
  refine look_filter p _ _ fun r hr' e1 e2 => hp r hr' ?_
  unfold metR
  rw [e1, e2, decide_eq_true (chr_mem hi), decide_eq_true (chr_mem hj)]
  rfl
def callR (p : Nat → Nat) (r : RowT) : RowT := (callS p r.1, callS p r.2.1, r.2.2)
theorem call_sgn (p : Nat → Nat) (a : Nat) : callS p (sgn a) = sgn (p a) := by
  refine ext_tl ?_
  rw [tl_call]
  show [97 + p (97 + a - 97)] = [97 + p a]
  rw [Nat.add_sub_cancel_left]
theorem look_call {p : Nat → Nat} (inj : ∀ a b, a < 6 → b < 6 → p a = p b → a = b) {a b : Nat} (ha : a < 6) (hb : b < 6) : ∀ {rows : List RowT}, (∀ r ∈ rows, ∃ c d, r.1 = sgn c ∧ r.2.1 = sgn d ∧ c < 6 ∧ d < 6) → lookR (rows.map (callR p)) (sgn (p a)) (sgn (p b)) = lookR rows (sgn a) (sgn b)
  | [], _ => rfl
  | r :: rows, h => by
    have ih := look_call inj ha hb (rows := rows) fun q hq => h q (List.mem_cons_of_mem _ hq)
    obtain ⟨c, d, e1, e2, hc, hd⟩ := h r List.mem_cons_self
    unfold lookR at ih ⊢
    have e3 : (callR p r).1 = sgn (p c) := by show callS p r.1 = _; rw [e1, call_sgn]
    have e4 : (callR p r).2.1 = sgn (p d) := by show callS p r.2.1 = _; rw [e2, call_sgn]
    rw [List.map_cons, List.find?_cons, List.find?_cons, e1, e2, e3, e4]
    by_cases hr : sgn c = sgn a ∧ sgn d = sgn b
    · have h1 := sgn_inj hr.1
      have h2 := sgn_inj hr.2
      subst h1 h2
      rw [decide_eq_true ⟨rfl, rfl⟩, decide_eq_true ⟨rfl, rfl⟩]
      rfl
    · rw [decide_eq_false hr, decide_eq_false (fun z => hr ⟨by rw [inj c a hc ha (sgn_inj z.1)], by rw [inj d b hd hb (sgn_inj z.2)]⟩)]
      exact ih
theorem call_nodup {p : Nat → Nat} (inj : ∀ a b, a < 6 → b < 6 → p a = p b → a = b) : ∀ {rows : List RowT}, (∀ r ∈ rows, ∃ c d, r.1 = sgn c ∧ r.2.1 = sgn d ∧ c < 6 ∧ d < 6) → (rows.map fun r => (r.1, r.2.1)).Nodup → ((rows.map (callR p)).map fun r => (r.1, r.2.1)).Nodup
  | [], _, _ => List.nodup_nil
  | r :: rows, h, nd => by
    rw [List.map_cons] at nd
    rw [List.map_cons, List.map_cons]
    have h1 := List.nodup_cons.mp nd
    refine List.nodup_cons.mpr ⟨fun hm => h1.1 ?_, call_nodup inj (fun q hq => h q (List.mem_cons_of_mem _ hq)) h1.2⟩
    obtain ⟨q, hq, e⟩ := List.mem_map.mp hm
    obtain ⟨q', hq', rfl⟩ := List.mem_map.mp hq
    have e : (callS p q'.1, callS p q'.2.1) = (callS p r.1, callS p r.2.1) := e
    obtain ⟨f1, f2⟩ := Prod.mk.inj e
    obtain ⟨c, d, e1, e2, hc, hd⟩ := h r List.mem_cons_self
    obtain ⟨c', d', e1', e2', hc', hd'⟩ := h q' (List.mem_cons_of_mem _ hq')
    rw [e1, e1', call_sgn, call_sgn] at f1
    rw [e2, e2', call_sgn, call_sgn] at f2
    refine List.mem_map.mpr ⟨q', hq', ?_⟩
    show (q'.1, q'.2.1) = (r.1, r.2.1)
    rw [e1, e1', e2, e2', inj _ _ hc' hc (sgn_inj f1), inj _ _ hd' hd (sgn_inj f2)]
theorem Cov.call {x y : Str} {rows : List RowT} (h : (⟨x, y, rows⟩ : Bd).ok) (hx : lett x) (hy : lett y) (hr : ∀ r ∈ rows, ∃ c d, r.1 = sgn c ∧ r.2.1 = sgn d ∧ c < 6 ∧ d < 6) {p : Nat → Nat} (inj : ∀ a b, a < 6 → b < 6 → p a = p b → a = b) : Cov ⟨callS p x, callS p y, rows.map (callR p)⟩ ⟨x, y, rows⟩ 0 0 := by
  have e1 := callS_len p x
  have e2 := callS_len p y
  have hro : RowsOk rows := h.rows
  refine ⟨⟨?_, ?_, ?_, ?_, ⟨call_nodup inj hr hro.nd, fun r hr' => ?_, by rw [List.length_map]; exact hro.len⟩⟩, h, ⟨1, ?_⟩, ⟨1, ?_⟩, fun i j hi hj => ?_⟩
  · show 1 ≤ (callS p x).length; rw [e1]; exact h.a1
  · show (callS p x).length ≤ _; rw [e1]; exact h.a2
  · show 1 ≤ (callS p y).length; rw [e2]; exact h.b1
  · show (callS p y).length ≤ _; rw [e2]; exact h.b2
  · obtain ⟨q, hq, rfl⟩ := List.mem_map.mp hr'
    exact hro.ws q hq
  · show (callS p x).length = 1 * x.length; rw [e1, Nat.one_mul]
  · show (callS p y).length = 1 * y.length; rw [e2, Nat.one_mul]
  · have hi : i < (callS p x).length := hi
    have hj : j < (callS p y).length := hj
    rw [e1] at hi
    rw [e2] at hj
    show lookR (rows.map (callR p)) (chr (callS p x) i) (chr (callS p y) j) = lookR rows (chr x ((i + 0) % x.length)) (chr y ((j + 0) % y.length))
    rw [Nat.add_zero, Nat.add_zero, Nat.mod_eq_of_lt hi, Nat.mod_eq_of_lt hj]
    obtain ⟨a, ha, ea⟩ := chr_sgn hx hi
    obtain ⟨b, hb, eb⟩ := chr_sgn hy hj
    rw [call_chr ea hi, call_chr eb hj, ea, eb]
    exact look_call inj ha hb hr
end DL

set_option Elab.async false
set_option linter.all false
set_option maxRecDepth 100000
set_option maxHeartbeats 4000000
namespace DL
open PySem PySem.Spec L2
open PyProof.Rows hiding St
/-! ## list(text), text.index(sign) -/
theorem cr_listS {X : Cx} (hc : X.calm = true) : CallR X (.type "list") (fun xs H Q => ∃ x : Str, xs = [V.str x] ∧ x.length ≤ sizeLine ∧ ∀ p, H p = none → Q (.ref p) (upd H p (.lst (x.cps.toList.map fun c => V.str ⟨#[c]⟩)))) := by
  intro pins s σ H xs us Q I r h
  obtain ⟨x, e, hl, q⟩ := h
  subst e
  obtain ⟨u, eu, rx⟩ := vals1 r
  subst eu
  obtain ⟨t, rfl⟩ := rx
  refine call_list_str (I.ok.hd hc) x t (hn := hl) fun h' tk acc' c' hkeep hS hacc => ?_
  refine ⟨.ref s.heap.objs.size, _, I.laid hkeep (Nat.le_refl _) (show ObjOk X.prog X.w _ _ _ (.lst (x.cps.toList.map fun c => V.str ⟨#[c]⟩)) from ⟨?_, acc'.toList, c', ?_, ?_⟩), rfl, q _ (I.hok.fresh (Nat.le_refl _))⟩
  · rw [List.length_map, Array.length_toList]; exact hl
  · have el : acc'.toList.length = acc'.size := by simp
    refine vals_of_at (by rw [List.length_map, el, hacc.1, Array.length_toList]) fun j y w h1 h2 => ?_
    obtain ⟨c, u, hcu, hw⟩ := hacc.2 j w (by rw [← Array.getElem?_toList]; exact h2)
    rw [List.getElem?_map, Array.getElem?_toList, hcu] at h1
    cases h1
    exact ⟨u, hw⟩
  · rw [Array.toArray_toList]; exact hS
section
variable {X : Cx} {sl : Sl} {rs : List Res} {Q : EQ} {r1 r2 : Rv} {k : Nat}
theorem rps_signs {K : PySem.W.Frag} {H : Hp} (x : Str) : Rps K H (x.cps.toList.map fun c => V.str ⟨#[c]⟩) (signsD x) := by
  have := Rps.ofStrs (K := K) (H := H) (x.cps.toList.map fun c => (⟨#[c]⟩ : Str))
  rw [List.map_map, List.map_map] at this
  exact this
theorem cv_listS (hc : X.calm = true) {x : Str} (hl : x.length ≤ 1000000) (q : Q (.rf rs.length) (rs ++ [.lst (signsD x)])) : CV X (.type "list") [.sh (.str x)] rs Q :=
  cv_of (cr_listS hc) fun T H vs R pp => by
    obtain ⟨v, rfl, p⟩ := rp1 pp
    refine ⟨x, by rw [strOf p], Nat.le_trans hl (by decide), fun pp hp => ?_⟩
    exact ⟨_, _, .rf rs.length, T.le_more pp, make_lst R hp (rps_signs x), at_more R pp, q⟩
theorem mv_sindex {a b : Str} {i : Nat} {rest : List Nat} (h : Builtin.Str.occurrences a b 0 a.length 1 = i :: rest) (q : Q (.sh (.int (i : Nat))) rs) : MV X "str.index" (.sh (.str a)) [.sh (.str b)] rs Q :=
  mv_of mt_sindex fun T H v vs R p pp => by
    obtain ⟨u, rfl, p2⟩ := rp1 pp
    exact ⟨a, b, i, rest, strOf p, by rw [strOf p2], h, epost R (r := .sh (.int _)) (.int _) q⟩
theorem occ_six {a : Nat} (h : a < 6) : Builtin.Str.occurrences "abcdef" (sgn a) 0 ("abcdef" : Str).length 1 = [a] := by
  match a, h with
  | 0, _ => decide +kernel
  | 1, _ => decide +kernel
  | 2, _ => decide +kernel
  | 3, _ => decide +kernel
  | 4, _ => decide +kernel
  | 5, _ => decide +kernel
theorem mv_six {a : Nat} (h : a < 6) (q : Q (.sh (.int (a : Nat))) rs) : MV X "str.index" (.sh (.str "abcdef")) [.sh (.str (sgn a))] rs Q := mv_sindex (rest := []) (occ_six h) q
end
/-- what a list of six letters calls the letters -/
def pOf (ns : List Nat) (a : Nat) : Nat := ns.getD a 0
theorem pOf_get {ns : List Nat} {a : Nat} (h : a < ns.length) : ns[a]? = some (pOf ns a) := by unfold pOf; rw [List.getD_eq_getElem?_getD, List.getElem?_eq_getElem h]; rfl
theorem perm_map {α β : Type} (f : α → β) (g : β → α) (hg : ∀ x, g (f x) = x) {L : List α} {es : List β} (h : es.Perm (L.map f)) : ∃ ns : List α, ns.Perm L ∧ es = ns.map f := by
  refine ⟨es.map g, ?_, ?_⟩
  · have := h.map g
    rw [List.map_map] at this
    have e : L.map (g ∘ f) = L := by
      rw [show g ∘ f = id from funext hg, List.map_id]
    rwa [e] at this
  · rw [List.map_map]
    refine (List.map_id es).symm.trans (List.map_congr_left fun x hx => ?_)
    obtain ⟨y, _, rfl⟩ := List.mem_map.mp (h.mem_iff.mp hx)
    show f y = f (g (f y))
    rw [hg]
theorem six_perm {es : List Da} (h : es.Perm (signsD "abcdef")) : ∃ ns : List Nat, es = ns.map (fun b => Da.str (sgn b)) ∧ ns.length = 6 ∧ (∀ b ∈ ns, b < 6) ∧ ∀ a b, a < 6 → b < 6 → pOf ns a = pOf ns b → a = b := by
  have e0 : signsD "abcdef" = (List.range 6).map fun b => Da.str (sgn b) := rfl
  rw [e0] at h
  obtain ⟨ns, hp, e⟩ := perm_map (fun b => Da.str (sgn b)) (fun d => match d with | .str x => (x.cps.toList.headD 0) - 97 | _ => 0) (fun b => by show (97 + b) - 97 = b; omega) h
  have hl : ns.length = 6 := by rw [hp.length_eq, List.length_range]
  have hnd : ns.Nodup := hp.nodup_iff.mpr List.nodup_range
  refine ⟨ns, e, hl, fun b hb => List.mem_range.mp (hp.mem_iff.mp hb), fun a b ha hb e => ?_⟩
  have ea := pOf_get (ns := ns) (a := a) (by omega)
  have eb := pOf_get (ns := ns) (a := b) (by omega)
  rw [e, ← eb] at ea
  exact (List.getElem?_inj (by omega) hnd).mp ea
end DL
namespace DL
open PySem PySem.Spec L2
theorem trim_lstG {K : PySem.W.Frag} {n0 : Nat} {Q : EQ} {k : Nat} {ds : List Da} {rs0 rs : List Res} (g : Gh K rs0 rs) (m : Nat) (h : rs[k]? = some (.lst ds)) (q : Q (.sh (.lst ds)) ((rs.set k (.frz (.lst ds))).take m)) (h1 : n0 ≤ m := by simp) (h2 : m ≤ rs.length := by simp) (h3 : ((rs.set k (.frz (.lst ds))).take m).all Res.cl = true := by rfl) : Trim K n0 Q (.rf k) rs0 :=
  ⟨_, g.trans (gh_frz h), m, .sh (.lst ds), h1, by rw [List.length_set]; exact h2, h3, .inr ⟨k, _, rfl, List.getElem?_set_self (List.getElem?_eq_some_iff.mp h).1, rfl⟩, trivial, q⟩
end DL
namespace DL
theorem erase_perm {α : Type} : ∀ {l : List α} {r : Nat} (h : r < l.length), (l[r] :: l.eraseIdx r).Perm l
  | [], r, h => by simp at h
  | x :: l, 0, h => by simp
  | x :: l, r + 1, h => by
    have ih := erase_perm (l := l) (r := r) (by simpa using h)
    simp only [List.getElem_cons_succ, List.eraseIdx_cons_succ]
    exact (List.Perm.swap x _ _).trans (ih.cons x)
end DL
namespace DL
open PySem PySem.Spec L2
theorem cutS_le (z : Str) (lo hi : Option Int) : (cutS z lo hi).length ≤ z.length := by
  rw [← tl_len, tl_cut, List.length_take, List.length_drop, tl_len]; omega
theorem signsD_tl {x : Str} {k : Nat} {d : Da} (h : (signsD x)[k]? = some d) : ∃ c, (tl x)[k]? = some c ∧ d = .str ⟨#[c]⟩ := signsD_get h
theorem sgn_of {c : Nat} (h : 97 ≤ c) : (⟨#[c]⟩ : Str) = sgn (c - 97) := by unfold sgn; rw [show 97 + (c - 97) = c by omega]
/-- (x - o) mod n, as a natural number -/
theorem sub_mod {x o n : Nat} (hx : x < n) (ho : o < n) : ∃ i : Nat, i < n ∧ ((x : Int) - o) % n = (i : Int) ∧ (i + o) % n = x := by
  by_cases h : o ≤ x
  · refine ⟨x - o, by omega, ?_, ?_⟩
    · rw [← Int.ofNat_sub h, ← Int.natCast_emod, Nat.mod_eq_of_lt (by omega)]
    · rw [Nat.sub_add_cancel h, Nat.mod_eq_of_lt hx]
  · refine ⟨x + n - o, by omega, ?_, ?_⟩
    · rw [← Int.add_emod_right, show (x : Int) - o + n = ((x + n - o : Nat) : Int) by omega]
      rw [← Int.natCast_emod, Nat.mod_eq_of_lt (by omega)]
    · rw [show x + n - o + o = x + n by omega, Nat.add_mod_right, Nat.mod_eq_of_lt hx]
theorem like_zero {i o x n : Nat} (h : (i + o) % n = x) : ((i : Int) + o - x) % n = 0 := by
  rw [← h]
  have : ((i : Int) + o) = ((i + o : Nat) : Int) := by omega
  rw [this, Int.natCast_emod]
  exact Int.emod_eq_zero_of_dvd (Int.dvd_self_sub_emod)
end DL
namespace DL
open PySem PySem.Spec L2
section
variable {X : Cx} {rs : List Res} {Q : EQ}
theorem cv_listSs (hc : X.calm = true) {x : Str} (hl : x.length ≤ 1000000) (q : Q (.sh (.lst (signsD x))) rs) : CV X (.type "list") [.sh (.str x)] rs Q :=
  cv_of (cr_listS hc) fun T H vs R pp => by
    obtain ⟨v, rfl, p⟩ := rp1 pp
    refine ⟨x, by rw [strOf p], Nat.le_trans hl (by decide), fun pp hp => ?_⟩
    obtain ⟨R4, l4⟩ := R.share (o := .lst (x.cps.toList.map fun c => V.str ⟨#[c]⟩)) hp
    exact ⟨_, rs, .sh (.lst _), l4, R4, Rp.lst upd_same (rps_signs x), q⟩
end
/-- a drawing thing and arguments told by a, data out -/
def ctTA {α : Type} (κ c : Nat) (pre : α → Prop) (arg : α → List Da) (post : α → Da → Prop) : Ct := fun as rs Q => ∃ a n, as = .rf 0 :: (arg a).map .sh ∧ rs = [.tray κ n] ∧ n + c < 2 ^ 30 ∧ pre a ∧ ∀ d, post a d → Q (.sh d) [.tray κ (n + c)]
theorem ctTA_mono {α : Type} {κ c : Nat} {pre : α → Prop} {arg : α → List Da} {post : α → Da → Prop} : Mono (ctTA κ c pre arg post) := fun as rs P Q k ⟨ds, n, a, b, c, e, q⟩ => ⟨ds, n, a, b, c, e, fun d h => k _ _ (q d h)⟩
theorem kc_TA {α : Type} {κ c n j : Nat} {pre : α → Prop} {arg : α → List Da} {post : α → Da → Prop} {rs : List Res} {as : List Rv} {Q : EQ} (a : α) (hj : rs[j]? = some (.tray κ n)) (h : Shs rs as (arg a)) (hn : n + c < 2 ^ 30) (hp : pre a) (q : ∀ d, post a d → Q (.sh d) (rs.set j (.tray κ (n + c)))) : Kc (ctTA κ c pre arg post) (.rf j :: as) rs Q :=
  .one (bs := .rf 0 :: (arg a).map .sh) hj rfl (.rf (shs_sub h)) ⟨a, n, rfl, rfl, hn, hp, fun d hd => ⟨.tray κ (n + c), [], rfl, rfl, by rw [List.append_nil]; exact q d hd⟩⟩
theorem metR_eq {x y : Str} {r : RowT} {c d : Nat} (h1 : r.1 = ⟨#[c]⟩) (h2 : r.2.1 = ⟨#[d]⟩) : metR x y r = (decide (c ∈ x.cps.toList) && decide (d ∈ y.cps.toList)) := by
  have key : ∀ (z : Str) (c : Nat), (⟨#[c]⟩ : Str) ∈ (tl z).map (fun c => (⟨#[c]⟩ : Str)) ↔ c ∈ z.cps.toList := fun z c => by
    rw [List.mem_map]
    constructor
    · rintro ⟨b, hb, e⟩
      have : b = c := by simpa using e
      rw [← this]; exact hb
    · exact fun h => ⟨c, h, rfl⟩
  unfold metR
  rw [h1, h2]
  congr 1
  · exact decide_eq_decide.mpr (key x c)
  · exact decide_eq_decide.mpr (key y d)
def cvD (f : Bd → Da) (p : Bd × Nat × Nat) : Da := .tup [f p.1, .tup [.int p.2.1, .int p.2.2]]
end DL

set_option Elab.async false
set_option linter.all false
set_option maxRecDepth 100000
set_option maxHeartbeats 4000000
namespace DL
open PySem PySem.Spec L2
/-! ## walks on a sheet: no one crosses another one -/
/-- the first reader steps at the place i, y of the sheet -/
def Bd.fL (bd : Bd) (i y : Nat) (f : Bool) : Bool := bd.fst ⟨i % bd.a.length, y % bd.b.length, f⟩
/-- from i, y on, the column i is left at the height h -/
inductive Bd.Ex (bd : Bd) (i : Nat) : Nat → Bool → Nat → Prop
  | here {y : Nat} {f : Bool} : bd.fL i y f = true → Bd.Ex bd i y f y
  | up {y h : Nat} {f : Bool} : bd.fL i y f = false → Bd.Ex bd i (y + 1) false h → Bd.Ex bd i y f h
/-- no higher, or of one place with a last that is no later -/
def leL (y : Nat) (f : Bool) (y' : Nat) (f' : Bool) : Prop := y < y' ∨ (y = y' ∧ (f = false ∨ f' = true))
theorem Bd.Ex.ge {bd : Bd} {i y h : Nat} {f : Bool} (e : bd.Ex i y f h) : y ≤ h := by
  induction e with
  | here _ => exact Nat.le_refl _
  | up _ _ ih => omega
theorem Bd.fL_last {bd : Bd} {i y : Nat} {f f' : Bool} (h : f = false ∨ f' = true) (h0 : bd.fL i y f = false) : bd.fL i y f' = false := by
  unfold Bd.fL Bd.fst at h0 ⊢
  rw [Bool.or_eq_false_iff] at h0 ⊢
  refine ⟨h0.1, ?_⟩
  have h2 := h0.2
  show (decide (bd.wd (i % bd.a.length) (y % bd.b.length) = "other") && !f') = false
  have h2 : (decide (bd.wd (i % bd.a.length) (y % bd.b.length) = "other") && !f) = false := h2
  rcases h with h | h
  · subst h
    rw [Bool.not_false, Bool.and_true] at h2
    rw [h2]; rfl
  · subst h
    rw [Bool.not_true, Bool.and_false]
theorem Bd.Ex.mono {bd : Bd} {i y h : Nat} {f : Bool} (e : bd.Ex i y f h) : ∀ {y' h' : Nat} {f' : Bool}, bd.Ex i y' f' h' → leL y f y' f' → h ≤ h' := by
  induction e with
  | here _ =>
    intro y' h' f' e' l
    have := e'.ge
    rcases l with l | ⟨l, _⟩ <;> omega
  | @up y h f h0 e ih =>
    intro y' h' f' e' l
    rcases l with l | ⟨rfl, l⟩
    · exact ih e' (by
        by_cases q : y + 1 < y'
        · exact .inl q
        · exact .inr ⟨by omega, .inl rfl⟩)
    · have h1 := Bd.fL_last l h0
      cases e' with
      | here q => rw [h1] at q; cases q
      | up _ e2 => exact ih e2 (.inr ⟨rfl, .inl rfl⟩)
theorem Bd.fL_round (bd : Bd) (i y : Nat) (f : Bool) : bd.fL i (y + bd.b.length) f = bd.fL i y f := by
  unfold Bd.fL
  rw [Nat.add_mod_right]
theorem Bd.Ex.round {bd : Bd} {i y h : Nat} {f : Bool} (e : bd.Ex i y f h) : bd.Ex i (y + bd.b.length) f (h + bd.b.length) := by
  induction e with
  | here q => exact .here (by rw [Bd.fL_round]; exact q)
  | @up y h f q e ih => exact .up (by rw [Bd.fL_round]; exact q) (by rw [show y + bd.b.length + 1 = y + 1 + bd.b.length by omega]; exact ih)
/-- the m-th column behind i is left at the height h -/
def Bd.ExN (bd : Bd) : Nat → Nat → Nat → Bool → Nat → Prop
  | 0, i, y, f, h => bd.Ex i y f h
  | m + 1, i, y, f, h => ∃ h0, bd.Ex i y f h0 ∧ Bd.ExN bd m (i + 1) h0 true h
theorem Bd.ExN.mono {bd : Bd} : ∀ {m i y y' h h' : Nat} {f f' : Bool}, bd.ExN m i y f h → bd.ExN m i y' f' h' → leL y f y' f' → h ≤ h'
  | 0, _, _, _, _, _, _, _, e, e', l => Bd.Ex.mono e e' l
  | m + 1, _, _, _, _, _, _, _, ⟨h0, e, r⟩, ⟨h0', e', r'⟩, l => by
    have h1 := Bd.Ex.mono e e' l
    refine Bd.ExN.mono r r' ?_
    by_cases q : h0 < h0'
    · exact .inl q
    · exact .inr ⟨by omega, .inr rfl⟩
theorem Bd.ExN.round {bd : Bd} : ∀ {m i y h : Nat} {f : Bool}, bd.ExN m i y f h → bd.ExN m i (y + bd.b.length) f (h + bd.b.length)
  | 0, _, _, _, _, e => Bd.Ex.round e
  | m + 1, _, _, _, _, ⟨h0, e, r⟩ => ⟨h0 + bd.b.length, Bd.Ex.round e, Bd.ExN.round r⟩
/-- of one place: the column is left once -/
theorem Bd.ExN.fun {bd : Bd} {m i y h h' : Nat} {f : Bool} (e : bd.ExN m i y f h) (e' : bd.ExN m i y f h') : h = h' := by
  have l : leL y f y f := .inr ⟨rfl, by cases f; exact .inl rfl; exact .inr rfl⟩
  exact Nat.le_antisymm (e.mono e' l) (e'.mono e l)
/-! ### where the walk of a standing leaves its columns -/
theorem Bd.fst_at {bd : Bd} (hok : bd.ok) {s : Sd} (hs : s.ok bd) (t : Nat) : bd.fst (bd.go s t) = bd.fL (s.i + bd.F s t) (s.j + (t - bd.F s t)) (bd.go s t).f := by
  unfold Bd.fL
  rw [Bd.go_i hok hs, Bd.go_j hok hs]
theorem Bd.F_le1 {bd : Bd} {s : Sd} {k n : Nat} (h : k ≤ n) : bd.F s n ≤ bd.F s k + (n - k) := by
  induction n with
  | zero => have : k = 0 := by omega
            subst this; omega
  | succ n ih =>
    by_cases e : k = n + 1
    · subst e; omega
    · have h1 := ih (by omega)
      rw [Bd.F_succ]
      split <;> omega
/-- at the t-th tick the first reader steps, for the m-th time: so the column is left -/
theorem Bd.ex_at {bd : Bd} (hok : bd.ok) {s : Sd} (hs : s.ok bd) {t : Nat} (hf : bd.fst (bd.go s t) = true) : ∀ (d u : Nat), u + d = t → bd.F s u = bd.F s t → bd.Ex (s.i + bd.F s u) (s.j + (u - bd.F s u)) (bd.go s u).f (s.j + (t - bd.F s t))
  | 0, u, e, hF => by
    have : u = t := by omega
    subst this
    exact .here (by rw [← Bd.fst_at hok hs]; exact hf)
  | d + 1, u, e, hF => by
    have h1 := Bd.F_mono (bd := bd) (s := s) (show u + 1 ≤ t by omega)
    have h2 := Bd.F_mono (bd := bd) (s := s) (show u ≤ u + 1 by omega)
    have h3 := Bd.F_le (bd := bd) (s := s) u
    have h0 : bd.fst (bd.go s u) = false := by
      cases q : bd.fst (bd.go s u)
      · rfl
      · have := Bd.F_succ (bd := bd) (s := s) (k := u)
        rw [q, if_pos rfl] at this; omega
    have h4 : bd.F s (u + 1) = bd.F s u := by rw [Bd.F_succ, h0]; rfl
    have ih := Bd.ex_at hok hs hf d (u + 1) (by omega) (by omega)
    rw [h4] at ih
    refine .up (by rw [← Bd.fst_at hok hs]; exact h0) ?_
    have e5 : (bd.go s (u + 1)).f = false := by
      show (bd.tick (bd.go s u)).f = false
      rw [Bd.tick_f]; exact h0
    rw [e5, show u + 1 - bd.F s u = u - bd.F s u + 1 by omega, ← Nat.add_assoc] at ih
    exact ih
theorem Bd.exN_at {bd : Bd} (hok : bd.ok) {s : Sd} (hs : s.ok bd) {t : Nat} (hf : bd.fst (bd.go s t) = true) : ∀ (m u : Nat), u ≤ t → bd.F s u + m = bd.F s t → bd.ExN m (s.i + bd.F s u) (s.j + (u - bd.F s u)) (bd.go s u).f (s.j + (t - bd.F s t))
  | 0, u, hu, hF => Bd.ex_at hok hs hf (t - u) u (by omega) (by omega)
  | m + 1, u, hu, hF => by
    -- the next tick at which the first reader steps
    have key : ∀ d v, v + d = t → bd.F s v = bd.F s u → u ≤ v → ∃ w, u ≤ w ∧ w < t ∧ bd.F s w = bd.F s u ∧ bd.fst (bd.go s w) = true := by
      intro d
      induction d with
      | zero => intro v e1 e2 _; have : v = t := by omega
                subst this; omega
      | succ d ih =>
        intro v e1 e2 e3
        cases q : bd.fst (bd.go s v)
        · exact ih (v + 1) (by omega) (by rw [Bd.F_succ, q]; simpa using e2) (by omega)
        · exact ⟨v, e3, by omega, e2, q⟩
    obtain ⟨w, w1, w2, w3, w4⟩ := key (t - u) u (by omega) rfl (Nat.le_refl _)
    have e1 := Bd.ex_at hok hs w4 (w - u) u (by omega) w3.symm
    have e2 : bd.F s (w + 1) = bd.F s u + 1 := by rw [Bd.F_succ, w4, w3]; rfl
    have e3 := Bd.exN_at hok hs hf m (w + 1) (by omega) (by omega)
    have e4 : (bd.go s (w + 1)).f = true := by
      show (bd.tick (bd.go s w)).f = true
      rw [Bd.tick_f]; exact w4
    have h3 := Bd.F_le (bd := bd) (s := s) w
    refine ⟨_, e1, ?_⟩
    rw [e2, e4, show w + 1 - (bd.F s u + 1) = w - bd.F s w by omega, ← Nat.add_assoc] at e3
    exact e3
/-- the heights at which n ticks leave columns, in order -/
def Bd.hts (bd : Bd) (s : Sd) (n : Nat) : List Nat := ((List.range n).filter fun t => bd.fst (bd.go s t)).map fun t => t - bd.F s t
theorem Bd.hts_succ (bd : Bd) (s : Sd) (n : Nat) : bd.hts s (n + 1) = bd.hts s n ++ (if bd.fst (bd.go s n) then [n - bd.F s n] else []) := by
  unfold Bd.hts
  rw [show List.range (n + 1) = List.range n ++ [n] from List.range_succ, List.filter_append, List.map_append]
  congr 1
  cases q : bd.fst (bd.go s n) <;> simp [q]
theorem Bd.hts_len (bd : Bd) (s : Sd) : ∀ n, (bd.hts s n).length = bd.F s n
  | 0 => rfl
  | n + 1 => by
    rw [Bd.hts_succ, List.length_append, Bd.hts_len bd s n, Bd.F_succ]
    cases bd.fst (bd.go s n) <;> rfl
theorem Bd.hts_get {bd : Bd} {s : Sd} {m v : Nat} : ∀ {n : Nat}, (bd.hts s n)[m]? = some v → ∃ t, t < n ∧ bd.fst (bd.go s t) = true ∧ bd.F s t = m ∧ v = t - bd.F s t
  | 0, h => by simp [Bd.hts] at h
  | n + 1, h => by
    rw [Bd.hts_succ] at h
    by_cases hm : m < (bd.hts s n).length
    · rw [List.getElem?_append_left hm] at h
      obtain ⟨t, h1, h2⟩ := Bd.hts_get h
      exact ⟨t, by omega, h2⟩
    · rw [List.getElem?_append_right (by omega)] at h
      cases q : bd.fst (bd.go s n)
      · rw [q] at h; simp at h
      · rw [q, if_pos rfl] at h
        have hl : m - (bd.hts s n).length < 1 := (List.getElem?_eq_some_iff.mp h).1
        have e : m - (bd.hts s n).length = 0 := by omega
        rw [e] at h
        have ev : n - bd.F s n = v := Option.some.inj h
        exact ⟨n, Nat.lt_succ_self n, q, by rw [← Bd.hts_len]; omega, ev.symm⟩
theorem Bd.hts_ex {bd : Bd} (hok : bd.ok) {s : Sd} (hs : s.ok bd) {n m v : Nat} (h : (bd.hts s n)[m]? = some v) : bd.ExN m s.i s.j s.f (s.j + v) := by
  obtain ⟨t, _, h2, h3, rfl⟩ := Bd.hts_get h
  have := Bd.exN_at hok hs h2 m 0 (Nat.zero_le _) (by rw [Bd.F_zero]; omega)
  exact this
/-- no crossing -/
theorem Bd.between {bd : Bd} (hok : bd.ok) {s u : Sd} (hs : s.ok bd) (hu : u.ok bd) (ei : s.i = u.i) (l : leL s.j s.f u.j u.f) {n k m v x : Nat} (h : (bd.hts s n)[m]? = some v) (h' : (bd.hts u k)[m]? = some x) : s.j + v ≤ u.j + x ∧ u.j + x ≤ s.j + v + bd.b.length := by
  have e := Bd.hts_ex hok hs h
  have e' := Bd.hts_ex hok hu h'
  rw [ei] at e
  refine ⟨e.mono e' l, ?_⟩
  have r := e.round
  have := e'.mono r (.inl (by have := hu.2; omega))
  omega
end DL

set_option Elab.async false
set_option linter.all false
set_option maxRecDepth 100000
set_option maxHeartbeats 4000000
namespace DL
open PySem PySem.Spec L2
open PyProof.Rows hiding St
/-! ## zip of lists, sorted ints -/
def zipD (as bs : List Da) : List Da := List.zipWith (fun a b => Da.tup [a, b]) as bs
theorem zipD_get {as bs : List Da} {k : Nat} {d : Da} (h : (zipD as bs)[k]? = some d) : ∃ a b, as[k]? = some a ∧ bs[k]? = some b ∧ d = .tup [a, b] := by
  unfold zipD at h
  rw [List.getElem?_zipWith] at h
  cases ea : as[k]? with
  | none => rw [ea] at h; cases h
  | some a =>
    cases eb : bs[k]? with
    | none => rw [ea, eb] at h; cases h
    | some b => rw [ea, eb] at h; exact ⟨a, b, rfl, rfl, (Option.some.inj h).symm⟩
theorem zipD_len {as bs : List Da} : (zipD as bs).length = min as.length bs.length := List.length_zipWith
section
variable {X : Cx} {sl : Sl} {rs : List Res} {Q : EQ} {e e2 : Expr} {pos p tpos : Pos} {elts : List Expr} {kk : Nat} {r1 : Rv}
theorem iw_zip {Q : IQ} (hm : X.mg "zip" = none) (h : AW X sl [e, e2] rs fun as rs1 => ∃ ds es, Shs rs1 as [.lst ds, .lst es] ∧ Q (zipD ds es) rs1) (hg : Gl X "zip" := by rfl) (hs : starEach [e, e2] X.env = (false, eval e X.env) :: starEach [e2] X.env := by rfl) (hpl : (backTo pos (starEach [e2] X.env)).any (·.1) = false := by rfl) : IW X sl (.Tuple elts kk tpos) (.Call (.Name "zip" p) [e, e2] [] pos) rs Q :=
  iw_of (pi_zip hg hm pa_S hs hpl) fun T σ H hR S => thenA h hR S fun T1 rs1 as vs H1 l R1 p1 ⟨ds, es, e, q⟩ => by
    have rp := e.rps R1 p1
    cases rp with
    | cons ra rt =>
      cases rt with
      | cons rb rn =>
        cases rn
        cases ra with
        | lst ha pa =>
          cases rb with
          | lst hb pb =>
            rename_i a xs b ys
            have sa : ∀ {T' rs' H'}, T1.le T' → RepH X.K T' rs' H' → SqL X.K H' a xs := fun l' R' => SqL.of (R'.h0 _ _ (l'.h0 _ _ ha))
            have sb : ∀ {T' rs' H'}, T1.le T' → RepH X.K T' rs' H' → SqL X.K H' b ys := fun l' R' => SqL.of (R'.h0 _ _ (l'.h0 _ _ hb))
            refine ⟨a, b, xs, ys, rfl, sa (.refl _) R1, sb (.refl _) R1, T1, rs1, _, l, R1, ⟨fun T' rs' H' l' R' => ⟨xs, ys, sa l' R', sb l' R', ?_⟩, fun i T' rs' H' hi l' R' => ?_, fun i d T' rs' H' x H'' hd l' R' y => ?_⟩, q⟩
            · rw [zipD_len, pa.len, pb.len]; omega
            · rw [zipD_len] at hi
              obtain ⟨u, h1, _⟩ := pa.get (List.getElem?_eq_getElem (show i < ds.length by omega))
              obtain ⟨v, h2, _⟩ := pb.get (List.getElem?_eq_getElem (show i < es.length by omega))
              exact ⟨xs, ys, u, v, sa l' R', sb l' R', h1, h2⟩
            · obtain ⟨Tn, x1, x2, e1, h2, e3, h4, h5⟩ := y
              obtain ⟨da, db, h6, h7, rfl⟩ := zipD_get hd
              obtain ⟨u, h8, r8⟩ := pa.get h6
              obtain ⟨v, h9, r9⟩ := pb.get h7
              rw [h4 xs (sa l' R')] at h8; cases h8
              rw [h5 ys (sb l' R')] at h9; cases h9
              subst e1 e3
              obtain ⟨R2, l2⟩ := R'.share (o := .tup [x1, x2]) h2
              exact ⟨_, l2, R2, .tup upd_same (.cons (Rp.mono (l'.trans l2).h0 r8) (.one (Rp.mono (l'.trans l2).h0 r9)))⟩
theorem cv_sortedI {ns : List Int} (w : Vw rs r1 (.lst (ns.map Da.int))) (hl : ns.length < 64) (q : ∀ ms : List Int, ms.Perm ns → ms.Pairwise (· ≤ ·) → Q (.sh (.lst (ms.map Da.int))) rs) : CV X (.builtin "sorted") [r1] rs Q :=
  cv_of cr_sorted fun T H vs R pp => by
    obtain ⟨v, rfl, p⟩ := rp1 pp
    obtain ⟨ad, us, e, hs, rp⟩ := w.lstv R p
    have e2 := rp.toInts
    subst e2
    refine ⟨ad, ns, by rw [e], hs, hl, fun ms pp hp1 hp2 hp => ?_⟩
    obtain ⟨R4, l4⟩ := R.share (o := .lst (ms.map V.int)) hp
    exact ⟨_, rs, .sh (.lst _), l4, R4, Rp.lst upd_same (Rps.ofInts ms), q ms hp1 hp2⟩
end
theorem pair_sorted {a b : Int} {ms : List Int} (h : ms.Perm [a, b]) (p : ms.Pairwise (· ≤ ·)) : ∃ x y, ms = [x, y] ∧ x ≤ y ∧ (x = a ∨ x = b) ∧ (y = a ∨ y = b) := by
  have hl := h.length_eq
  match ms, hl with
  | [x, y], _ =>
    have hx := h.mem_iff.mp (show x ∈ [x, y] from List.mem_cons_self)
    have hy := h.mem_iff.mp (show y ∈ [x, y] from List.mem_cons_of_mem _ List.mem_cons_self)
    refine ⟨x, y, rfl, ?_, by simpa using hx, by simpa using hy⟩
    have := List.pairwise_cons.mp p
    exact this.1 y List.mem_cons_self
end DL
namespace DL
open PySem PySem.Spec L2
section
variable {X : Cx} {sl : Sl} {rs : List Res} {st : Stmt} {sts : List Stmt} {R : Out}
/-- a statement to a middle state, and on from there -/
theorem sw_mid (M : SQ) (h1 : S1 X sl st rs { R with nx := M }) (h2 : ∀ sl' rs', M sl' rs' → SW X sl' sts rs' R) : SW X sl (st :: sts) rs R :=
  sw_cons ⟨fun T σ H hR S => (h1.go T σ H hR S).mono ⟨fun _ _ ⟨T', sl', rs', l, R', S', q⟩ => ⟨T', sl', rs', l, R', S', h2 sl' rs' q⟩, fun _ _ q => q, fun _ _ q => q, fun _ _ q => q⟩⟩
/-- a slot whose thing has come to stay -/
theorem sw_frzs (i : Nat) {k : Nat} {d : Da} (h1 : sl[i]? = some (some (.rf k))) (h2 : rs[k]? = some (.frz d)) (h : SW X (sl.set i (some (.sh d))) sts rs R) : SW X sl sts rs R :=
  sw_sl (fun T σ H hR S => by
    refine ⟨by rw [List.length_set]; exact S.len, fun j r e => ?_⟩
    by_cases hj : i = j
    · subst hj
      have hl : i < sl.length := (List.getElem?_eq_some_iff.mp h1).1
      rw [List.getElem?_set_self hl] at e
      cases e
      obtain ⟨v, a, b⟩ := S.get i _ h1
      exact ⟨v, a, vw_sh hR h2 b⟩
    · rw [List.getElem?_set_ne hj] at e
      exact S.get j r e) h
end
def Bd.htsB (bd : Bd) (s : Sd) (n : Nat) (by' : Bool) : List Nat := if by' then bd.swap.hts s.swap n else bd.hts s n
end DL

set_option Elab.async false
set_option linter.all false
set_option maxRecDepth 100000
set_option maxHeartbeats 4000000
namespace DL
open PySem PySem.Spec L2
open PyProof.Rows (envOfC)

section
variable {X : Cx} {sl : Sl} {rs rs2 : List Res} {Q : EQ} {e : Expr} {es : List Expr} {sts : List Stmt} {R : Out} {k : Nat}
theorem open1 {K : PySem.W.Frag} {T : Tw} {H : Hp} (R : RepH K T rs H) {b : Nat} (h : rs[k]? = some (.tray 1 b)) : ∃ (T' : Tw) (gs : List Int) (f u : Int), gs.length ≤ 63 ∧ 0 ≤ f ∧ f < 2 ^ 61 ∧ 0 ≤ u ∧ u ≤ b ∧ T.le T' ∧
    RepH K T' (rs.set k (.lstR [.rf rs.length, .sh (.int f), .sh (.int u)]) ++ [.lst (gs.map Da.int)]) H := by
  obtain ⟨h1, g, gs, f, u, h2, h3, h4, h5, h6, h7, h8, h9, h10⟩ := R.rs _ _ h
  have hk : k < rs.length := (List.getElem?_eq_some_iff.mp h).1
  have kn : k ≠ T.n := by rw [← R.n]; omega
  have le0 : T.le (T.opn g) := ⟨.refl _, rfl, Nat.le_succ _, fun j hj => if_neg (by omega)⟩
  have ownG : (T.opn g).own g = some T.n := if_pos rfl
  have adN : (T.opn g).ad T.n = g := if_pos rfl
  refine ⟨T.opn g, gs, f, u, h6, h7, h8, h9, h10, le0, by rw [List.length_append, List.length_set, R.n]; rfl, R.h0, R.fr, fun a j e => ?_, R.df, fun j r e => ?_, R.tu⟩
  · by_cases ha : a = g
    · subst ha; exact R.dj a k h2
    · exact R.dj a j (by rw [← e]; exact (if_neg ha).symm)
  · by_cases hj : j < rs.length
    · rw [List.getElem?_append_left (by rw [List.length_set]; exact hj)] at e
      by_cases hkj : k = j
      · subst hkj
        rw [List.getElem?_set_self hk] at e
        cases e
        refine ⟨?_, [V.ref g, .int f, .int u], ?_, .cons ⟨?_, ?_⟩ (.cons (.int f) (.cons (.int u) .nil))⟩
        · show (if (if k = T.n then g else T.ad k) = g then some T.n else T.own (if k = T.n then g else T.ad k)) = some k
          rw [if_neg kn, if_neg (Ne.symm h3)]; exact h1
        · show H (if k = T.n then g else T.ad k) = _
          rw [if_neg kn]; exact h4
        · rw [R.n]; exact Nat.lt_succ_self _
        · rw [R.n]; exact congrArg V.ref adN.symm
      · rw [List.getElem?_set_ne hkj] at e
        refine (R.rs j r e).keep le0 (R.lt e) fun a ha => ⟨?_, fun _ q => q⟩
        show (if a = g then some T.n else T.own a) = some j
        rw [if_neg (fun z => hkj (by rw [z] at ha; rw [ha] at h2; exact (Option.some.inj h2).symm))]; exact ha
    · have hj2 : j = rs.length := by
        have := (List.getElem?_eq_some_iff.mp e).1
        rw [List.length_append, List.length_set, List.length_singleton] at this
        omega
      subst hj2
      rw [List.getElem?_append_right (by rw [List.length_set]; exact Nat.le_refl _), List.length_set, Nat.sub_self] at e
      have e : Res.lst (gs.map Da.int) = r := Option.some.inj e
      subst e
      rw [R.n]
      exact ⟨by rw [adN]; exact ownG, _, by rw [adN]; exact h5, Rps.ofInts gs⟩
theorem sw_open1 {bd : Nat} (h : rs[k]? = some (.tray 1 bd)) (hh : ∀ (gs : List Int) (f u : Int), gs.length ≤ 63 → 0 ≤ f → f < 2 ^ 61 → 0 ≤ u → u ≤ bd → SW X sl sts (rs.set k (.lstR [.rf rs.length, .sh (.int f), .sh (.int u)]) ++ [.lst (gs.map Da.int)]) R) : SW X sl sts rs R := ⟨fun T σ H a b => by
  obtain ⟨T', gs, f, u, h1, h2, h3, h4, h5, l, R'⟩ := open1 a h
  exact (SW.go (hh gs f u h1 h2 h3 h4 h5) T' σ H R' (b.le l)).mono (dof.le l R)⟩
theorem close1 {K : PySem.W.Frag} {m bd : Nat} {gs : List Int} {f u : Int} (h : rs[k]? = some (.lstR [.rf m, .sh (.int f), .sh (.int u)])) (hm : rs[m]? = some (.lst (gs.map Da.int))) (hl : gs.length ≤ 63) (h1 : 0 ≤ f) (h2 : f < 2 ^ 61) (h3 : 0 ≤ u) (h4 : u ≤ bd) :
    Gh K rs ((rs.set k (.tray 1 bd)).set m .off) := fun T H R => by
  obtain ⟨a1, vs, a2, a3⟩ := R.rs _ _ h
  obtain ⟨b1, ws, b2, b3⟩ := R.rs _ _ hm
  have hkm : k ≠ m := fun z => by subst z; rw [h] at hm; cases hm
  have hk := (List.getElem?_eq_some_iff.mp h).1
  have hml := (List.getElem?_eq_some_iff.mp hm).1
  have adne : T.ad k ≠ T.ad m := fun z => by rw [z, b1] at a1; exact hkm (Option.some.inj a1).symm
  have ew := b3.toInts
  subst ew
  have ev : vs = [.ref (T.ad m), .int f, .int u] := by
    cases a3 with
    | cons p1 t1 => cases t1 with
      | cons p2 t2 => cases t2 with
        | cons p3 t3 => cases t3; rw [p1.2, intOf p2, intOf p3]
  subst ev
  have le0 : T.le { T with own := fun a => if a = T.ad m then some k else T.own a } := ⟨.refl _, rfl, Nat.le_refl _, fun _ _ => rfl⟩
  refine ⟨{ T with own := fun a => if a = T.ad m then some k else T.own a }, le0, by rw [List.length_set, List.length_set]; exact R.n, R.h0, R.fr, fun a j e => ?_, R.df, fun j r e => ?_, R.tu⟩
  · by_cases ha : a = T.ad m
    · subst ha; exact R.dj _ m b1
    · exact R.dj a j (by rw [← e]; exact (if_neg ha).symm)
  · by_cases hjm : m = j
    · subst hjm
      rw [List.getElem?_set_self (by rw [List.length_set]; exact hml)] at e
      cases e; trivial
    · rw [List.getElem?_set_ne hjm] at e
      by_cases hjk : k = j
      · subst hjk
        rw [List.getElem?_set_self hk] at e
        cases e
        refine ⟨by show (if T.ad k = T.ad m then some k else T.own (T.ad k)) = some k; rw [if_neg adne]; exact a1, T.ad m, gs, f, u, if_pos rfl, Ne.symm adne, a2, b2, hl, h1, h2, h3, h4⟩
      · rw [List.getElem?_set_ne hjk] at e
        refine (R.rs j r e).keep le0 (R.lt e) fun a ha => ⟨?_, fun _ q => q⟩
        show (if a = T.ad m then some k else T.own a) = some j
        rw [if_neg (fun z => hjm (by rw [z, b1] at ha; exact Option.some.inj ha))]; exact ha

end
end DL

set_option Elab.async false
set_option linter.all false
set_option maxRecDepth 100000
set_option maxHeartbeats 4000000
namespace DL
open PySem PySem.Spec L2
open PyProof.Rows hiding St
/-! ## sorted(set(text)) -/
def keyS (e : Int × Value) : Str := match e.2 with | .str x _ => x | _ => Str.empty
section
variable {P : Program} {w : World} {A : Around} {E : Value → Shared → Prop} {s : Shared} {a : Addr} {h h' : Heap} {xs : List Str}
def GoodT (P : Program) (w : World) (e : Int × Value) : Prop := ∃ x tk, e.2 = Value.str x tk ∧ e.1 = (PySem.strKind P w).hash x
/-- the set of the texts xs at a, no two alike, in some order -/
def SetTx (P : Program) (w : World) (h : Heap) (a : Addr) (xs : List Str) : Prop :=
  ∃ o es ep t, h.get? a = some o ∧ o.ExactSet ∧ o.data = .set es ep t ∧ (∀ e ∈ es.toList, GoodT P w e) ∧ (es.toList.map keyS).Perm xs ∧ xs.Nodup ∧
    es.size < scanBound ∧ t.fits es.size = true ∧ Ris t.place.toList ∧ (w.params.followText "set-order" = true ∨ t.led = true)
theorem SetTx.at (R : SetTx P w h a xs) (k : ∀ o, h.get? a = some o → h'.get? a = some o) : SetTx P w h' a xs := by
  obtain ⟨o, es, ep, t, ho, r⟩ := R
  exact ⟨o, es, ep, t, k o ho, r⟩
theorem goodT_elems {l : List (Int × Value)} (g : ∀ e ∈ l, GoodT P w e) : ElemsOf (PySem.strKind P w) l := fun e he => by
  obtain ⟨k, tk, h1, h2⟩ := g e he
  exact ⟨⟨k, by rw [h1]; exact strKind_is P w k tk, h2⟩, by rw [h1] <;> rfl⟩
theorem goodT_is {e : Int × Value} (g : GoodT P w e) (k : Str) : (PySem.strKind P w).is k e.2 = true ↔ keyS e = k := by
  obtain ⟨k0, tk, h1, _⟩ := g
  unfold keyS
  rw [h1]
  constructor
  · intro z
    obtain ⟨t, e⟩ := Value.isStrOf_shape (x := k) (show (Value.str k0 tk).isStrOf k = true from z)
    cases e; rfl
  · intro z
    have z : k0 = k := z
    rw [← z]; exact strKind_is P w k0 tk
theorem setTx_tail {g : Bool → Sem Unit} (hg : ∀ (b : Bool) (s₁ : Shared) (Q' : Unit → Shared → Prop), Q' () s₁ → wpAny (model P w) A (g b) Q' E s₁)
    {o : Obj} {es : Array (Int × Value)} {ep : Nat} {t : SetTable} (ho : s.heap.get? a = some o) (hex : o.ExactSet) (hd : o.data = .set es ep t)
    {es1 : Array (Int × Value)} {t2 : SetTable} (g1 : ∀ e ∈ es1.toList, GoodT P w e) (m1 : (es1.toList.map keyS).Perm xs) (nd1 : xs.Nodup)
    (hb1 : es1.size < scanBound) (hf2 : t2.fits es1.size = true) (hr : Ris t2.place.toList) (hl : w.params.followText "set-order" = true ∨ t2.led = true) {wasDummy : Bool} {R : Option Bool → Shared → Prop}
    (hR : ∀ h', Heap.SameBut a s.heap h' → SetTx P w h' a xs → R (some true) { s with heap := h' }) :
    wpAny (model P w) A (do
        storeSet a es1 t2
        if (!wasDummy && t2.tooFull) = true then do
            g (relayAll t2 es1 (SetTable.grown es1.size)).2.2
            storeSet a (relayAll t2 es1 (SetTable.grown es1.size)).1 (relayAll t2 es1 (SetTable.grown es1.size)).2.1
            pure (some true)
          else pure (some true)) R E s := by
  refine wpAny_bind (wpAny_storeSet_of ho hd ?_ (fits_of_scanBound hb1))
  have ho1 := store_at (es' := es1) (t' := t2) ho hd
  have sb1 := Heap.SameBut.update s.heap a (Obj.putSet es1 t2)
  split
  · have pm := relayAll_perm t2 es1 (SetTable.grown es1.size)
    have hf3 := relayAll_fits t2 es1 (SetTable.grown es1.size)
    have hr3 := relayAll_ris t2 es1 (SetTable.grown es1.size)
    have hl3 := relayAll_led t2 es1 (SetTable.grown es1.size)
    generalize relayAll t2 es1 (SetTable.grown es1.size) = Z at pm hf3 hr3 hl3 ⊢
    obtain ⟨es2, t3, gave⟩ := Z
    dsimp only at pm hf3 hr3 hl3 ⊢
    have hsz : es2.size = es1.size := by rw [← Array.length_toList, pm.length_eq, Array.length_toList]
    have hb2 : es2.size < scanBound := by rw [hsz]; exact hb1
    refine wpAny_bind (hg _ _ _ ?_)
    refine wpAny_bind (wpAny_storeSet_of ho1 rfl ?_ (fits_of_scanBound hb2))
    have ho2 := store_at (es' := es2) (t' := t3) ho1 rfl
    refine wpAny_pure (hR _ (sb1.trans (Heap.SameBut.update _ a _)) ?_)
    exact ⟨_, es2, _, t3, ho2, hex, rfl, fun e he => g1 e (pm.mem_iff.mp he), (pm.map keyS).trans m1, nd1, hb2, hf3, hr3,
      hl.imp id fun z => by rw [hl3]; exact z⟩
  · exact wpAny_pure (hR _ sb1 ⟨_, es1, _, t2, ho1, hex, rfl, g1, m1, nd1, hb1, hf2, hr, hl⟩)
theorem setTx_add {k : Str} {tk : Tok} {Q : Bool → Shared → Prop} (R : SetTx P w s.heap a xs) (room : xs.length + 1 < scanBound)
    (hQ : ∀ h' b, Heap.SameBut a s.heap h' → SetTx P w h' a (if k ∈ xs then xs else xs ++ [k]) → Q b { s with heap := h' }) :
    wpAny (model P w) A (setAddHashed a (.str k tk) ((PySem.strKind P w).hash k)) Q E s := by
  obtain ⟨o, es, ep, t, ho, hex, hd, g, pm0, nd, hb, hf, hr, hl⟩ := R
  have hkey : (PySem.strKind P w).is k (.str k tk) = true := strKind_is P w k tk
  have hsc : (Value.str k tk).scannable = true := rfl
  have hel : ElemsOf (PySem.strKind P w) es.toList := goodT_elems g
  unfold setAddHashed setAddHashedIn
  refine wpAny_holding (wpAny_bind (wpAny_setState_of ho hd hf ?_))
  dsimp only
  rw [byScan_of hsc hb hel]
  simp only [↓reduceIte]
  unfold setAddByScan
  refine wpAny_bind ?_
  refine wpAny_bind (wpAny_rule ?_)
  refine wpAny_bind (wpAny_setScan_of hkey ho hd hf hel ?_)
  cases hfi : List.findIdx? (fun e => (PySem.strKind P w).is k e.2) es.toList with
  | some j =>
    dsimp only
    obtain ⟨hj, pj, _⟩ := List.findIdx?_eq_some_iff_getElem.mp hfi
    have hSk : k ∈ xs := pm0.mem_iff.mp (List.mem_map.mpr ⟨es.toList[j], List.getElem_mem hj, (goodT_is (g _ (List.getElem_mem hj)) k).1 pj⟩)
    refine wpAny_pure (wpAny_pure ?_)
    have q := hQ s.heap false (Heap.SameBut.refl a s.heap) (by rw [if_pos hSk]; exact ⟨o, es, ep, t, ho, hex, hd, g, pm0, nd, hb, hf, hr, hl⟩)
    exact q
  | none =>
    dsimp only
    have hnk : k ∉ xs := fun z => by
      obtain ⟨e, he, q⟩ := List.mem_map.mp (pm0.mem_iff.mpr z)
      have c := List.findIdx?_eq_none_iff.mp hfi e he
      rw [(goodT_is (g e he) k).2 q] at c
      cases c
    have hgw : ∀ (b : Bool) {s₁ : Shared} {Q' : Unit → Shared → Prop}, Q' () s₁ → wpAny (model P w) A (match b with | true => rule "set.scan.the-table-gave-way" | false => pure ()) Q' E s₁ :=
      fun b s₁ Q' q => by cases b <;> first | exact wpAny_pure q | exact wpAny_rule q
    have pm := layNew_perm t es ((PySem.strKind P w).hash k) (.str k tk)
    have hf1 := layNew_fits t es ((PySem.strKind P w).hash k) (.str k tk)
    have hr1 := layNew_ris t es ((PySem.strKind P w).hash k) (.str k tk) hr
    have hl1 := layNew_led t es ((PySem.strKind P w).hash k) (.str k tk)
    generalize layNew t es ((PySem.strKind P w).hash k) (.str k tk) = Z at pm hf1 hr1 hl1 ⊢
    obtain ⟨es1, t1, wasDummy, gave⟩ := Z
    dsimp only at pm hf1 hr1 hl1 ⊢
    rw [Array.toList_push] at pm
    have pc : es1.toList.Perm (((PySem.strKind P w).hash k, Value.str k tk) :: es.toList) := pm.trans (List.perm_append_singleton _ _)
    have pk : (es1.toList.map keyS).Perm (xs ++ [k]) := (pc.map keyS).trans ((pm0.cons k).trans (List.perm_append_singleton _ _).symm)
    have g1 : ∀ e ∈ es1.toList, GoodT P w e := fun e he => by
      rcases List.mem_cons.mp (pc.mem_iff.mp he) with z | z
      · rw [z]; exact ⟨k, tk, rfl, rfl⟩
      · exact g e z
    have nd1 : (xs ++ [k]).Nodup := (List.perm_append_singleton k xs).nodup_iff.mpr (List.nodup_cons.mpr ⟨hnk, nd⟩)
    have hsz : es1.size = xs.length + 1 := by
      have := pk.length_eq
      rw [List.length_map, Array.length_toList, List.length_append] at this
      exact this
    have hb1 : es1.size < scanBound := by rw [hsz]; exact room
    have hled : w.params.followText "set-order" = true ∨ t1.led = true := hl.imp id fun z => by rw [hl1]; exact z
    have fin : ∀ h', Heap.SameBut a s.heap h' → SetTx P w h' a (xs ++ [k]) → Q true { s with heap := h' } := fun h' sb r => hQ h' true sb (by rw [if_neg hnk]; exact r)
    refine wpAny_bind (hgw _ ?_)
    split
    · refine wpAny_bind ?_
      rw [hashByValue_scannable 8 hsc]
      refine wpAny_pure ?_
      refine setTx_tail ?_ ho hex hd g1 pk nd1 hb1 ?_ ?_ ?_ ?_
      · intro b s₁ Q' q; cases b <;> first | exact wpAny_pure q | exact wpAny_rule q
      · first | (split <;> first | exact hf1 | exact SetTable.fits_plain_off hf1) | exact hf1
      · first | (split <;> exact hr1) | exact hr1
      · first | (split <;> exact hled) | exact hled
      · intro h' sb r; dsimp only; exact wpAny_pure (fin h' sb r)
    · refine wpAny_bind (wpAny_pure ?_)
      simp only [↓reduceIte]
      refine setTx_tail ?_ ho hex hd g1 pk nd1 hb1 hf1 hr1 hled ?_
      · intro b s₁ Q' q; cases b <;> first | exact wpAny_pure q | exact wpAny_rule q
      · intro h' sb r; dsimp only; exact wpAny_pure (fin h' sb r)
end

def addTx (xs : List Str) (k : Str) : List Str := if k ∈ xs then xs else xs ++ [k]
def signsTx (x : Str) (i : Nat) : List Str := ((x.cps.toList.take i).map fun c => (⟨#[c]⟩ : Str)).foldl addTx []
theorem signsTx_succ {x : Str} {i c : Nat} (h : x.cps[i]? = some c) : signsTx x (i + 1) = addTx (signsTx x i) ⟨#[c]⟩ := by
  unfold signsTx
  rw [List.take_add_one, show x.cps.toList[i]? = some c by rw [Array.getElem?_toList]; exact h]
  rw [List.map_append, List.foldl_append]; rfl
theorem addTx_len (xs : List Str) (k : Str) : (addTx xs k).length ≤ xs.length + 1 := by
  unfold addTx; split <;> simp
theorem signsTx_len (x : Str) (i : Nat) : (signsTx x i).length ≤ i := by
  induction i with
  | zero => exact Nat.le_of_eq rfl
  | succ i ih =>
    cases h : x.cps[i]? with
    | none =>
      have : x.cps.size ≤ i := by
        rcases Nat.lt_or_ge i x.cps.size with z | z
        · rw [Array.getElem?_eq_getElem z] at h; cases h
        · exact z
      have e : signsTx x (i + 1) = signsTx x i := by
        unfold signsTx
        rw [List.take_of_length_le (by rw [Array.length_toList]; omega), List.take_of_length_le (by rw [Array.length_toList]; omega)]
      rw [e]; omega
    | some c => rw [signsTx_succ h]; have := addTx_len (signsTx x i) ⟨#[c]⟩; omega
theorem addTx_sub {xs : List Str} {k y : Str} (h : y ∈ addTx xs k) : y ∈ xs ∨ y = k := by
  unfold addTx at h
  split at h
  · exact .inl h
  · simpa using h
theorem foldl_addTx : ∀ (ks xs : List Str) (y : Str), y ∈ ks.foldl addTx xs → y ∈ xs ∨ y ∈ ks
  | [], xs, y, h => .inl h
  | k :: ks, xs, y, h => by
    rcases foldl_addTx ks (addTx xs k) y h with h | h
    · rcases addTx_sub h with h | h
      · exact .inl h
      · exact .inr (h ▸ List.mem_cons_self)
    · exact .inr (List.mem_cons_of_mem _ h)
theorem signsTx_mem {x : Str} {i : Nat} {y : Str} (h : y ∈ signsTx x i) : ∃ c ∈ x.cps.toList, y = ⟨#[c]⟩ := by
  rcases foldl_addTx _ _ _ h with h | h
  · cases h
  · obtain ⟨c, hc, rfl⟩ := List.mem_map.mp h
    exact ⟨c, List.mem_of_mem_take hc, rfl⟩
section
variable {prog : Program} {w : World} {A : Around} {R : Result → Shared → Prop} {I : Addr} {fp wr : List Addr} {G : Array GenState → Array GenState → Prop} {n : Nat} {St : Nat → Shared → Prop}
theorem loopTx {x : Str} (W : WalksS prog w A.in1 I fp wr G n (SignAt x) St) (S : Addr) (hSf : S ∉ fp) (hn : n ≤ 1000) :
    ∀ (k i : Nat) (s : Shared), n - i = k → i ≤ n → St i s → SetTx prog w s.heap S (signsTx x i) →
      (∀ s', Moved (S :: wr) G s s' → SetTx prog w s'.heap S (signsTx x n) → R (.ok (.ret .none)) s') →
      codeAny (model prog w) A (.builtin "set.update.loop" ⟨[.ref S, .ref I], []⟩) R s := by
  have hSw : S ∉ wr := fun h => hSf (W.sub _ h)
  have hsub : ∀ b ∈ wr, b ∈ S :: wr := fun b hb => List.mem_cons_of_mem _ hb
  intro k
  induction k with
  | zero =>
    intro i s hk hi hst hS hR
    have hin : i = n := by omega
    subst hin
    refine codeAny_builtin PyProof.Rows.F.entry_set_update_loop ?_
    rw [Around.under_plainId PyProof.Rows.F.plain_set_update_loop _]
    show wpAny _ A.in1 (pyNext (.ref I) >>= _) _ _ s
    refine wpAny_bind (W.done s _ _ hst fun s' hm => ?_)
    show wpAny _ A.in1 (ret Value.none) _ _ s'
    exact wpAny_pure (hR s' (hm.mono hsub) (hS.at fun o e => hm.heap S o hSw e))
  | succ k ih =>
    intro i s hk hi hst hS hR
    have hlt : i < n := by omega
    refine codeAny_builtin PyProof.Rows.F.entry_set_update_loop ?_
    rw [Around.under_plainId PyProof.Rows.F.plain_set_update_loop _]
    show wpAny _ A.in1 (pyNext (.ref I) >>= _) _ _ s
    refine wpAny_bind (W.item i s _ _ hlt hst fun v s' hP hst' hm => ?_)
    obtain ⟨c, t, hc, rfl⟩ := hP
    have hS' : SetTx prog w s'.heap S (signsTx x i) := hS.at fun o e => hm.heap S o hSw e
    show wpAny _ A.in1 (holding [Value.str ⟨#[c]⟩ t] (setAdd S (.str ⟨#[c]⟩ t)) >>= _) _ _ s'
    refine wpAny_bind (wpAny_holding ?_)
    unfold setAdd
    refine wpAny_holding ?_
    refine wpAny_bind ((PySem.strKind prog w).pyHash (k := ⟨#[c]⟩) (strKind_is _ _ _ _) ?_)
    refine setTx_add (s := { s' with toks := s'.toks + 1 }) hS' (by have := signsTx_len x i; unfold scanBound; omega) fun h' b hsb hS2 => ?_
    have hSi : SetTx prog w h' S (signsTx x (i + 1)) := by rw [signsTx_succ hc]; exact hS2
    refine wpAny_pure ⟨plainId_quiet PyProof.Rows.F.plain_set_update_loop _, ih (i + 1) _ (by omega) hlt (W.frame _ s' _ _ hst' (Nat.le_succ _) fun b hb o e => ?_) hSi fun s'' hm'' hS'' => ?_⟩
    · rw [hsb.2 b (fun h : b = S => hSf (by rw [← h]; exact hb))]; exact e
    · refine hR s'' (Moved.trans W.gtrans ((hm.mono hsub).then_heap (Nat.le_succ _) fun b o hb e => ?_) hm'') hS''
      rw [hsb.2 b (fun h : b = S => hb (by rw [h]; exact List.mem_cons_self))]; exact e
end
section
variable {P : Program} {w : World} {A : Around} {E : Value → Shared → Prop} {s : Shared}
theorem setTx_fresh {h : Heap} {a : Addr} (ho : h.get? a = some { cls := .type "set", dict := none, data := .set #[] 0 (.fresh 0 0 (!w.params.followText "set-order")) }) : SetTx P w h a [] :=
  ⟨_, #[], 0, _, ho, ⟨rfl, rfl, rfl⟩, rfl, (fun e he => by simp at he), List.Perm.refl _, List.Pairwise.nil, (by decide), (by rfl), List.Pairwise.nil, by
    show _ ∨ (!w.params.followText "set-order") = true
    cases w.params.followText "set-order"
    · exact .inr rfl
    · exact .inl rfl⟩
theorem call_set_str {x : Str} {t0 : Tok} {Q : Value → Shared → Prop} (hh : A.handled = none) (hn : x.length ≤ 1000)
    (h : ∀ (h' : Heap) (tk : Nat), SetTx P w h' s.heap.objs.size (signsTx x x.length) → (∀ b o, s.heap.get? b = some o → h'.get? b = some o) → Q (.ref s.heap.objs.size) { s with heap := h', toks := tk }) :
    wpAny (model P w) A (call (.type "set") [.str x t0]) Q E s := by
  obtain ⟨c, tl, hmro⟩ := PySem.F.called_set.mro
  have hmade := PySem.F.called_set.made
  have hsub := PySem.F.called_set.sub
  refine wpAny_call (codeAny_of_tree ?_)
  show wpAny _ _ (callAny (.type "set") _) _ _ _
  refine wpAny_pure ⟨Code.quiet_builtin _ (by decide +kernel), codeAny_builtin PySem.F.entry_type_call ?_⟩
  rw [Around.under_plain (weight_type_call_type "set" [.str x t0] []) rfl]
  have h1 := PySem.F.called_set.notType
  have h2 := PySem.F.called_set.canCreate
  have hct := PySem.F.typeCall_set_1 (.str x t0)
  repeat (any_goals (first | assumption | wp_step))

  refine codeAny_mono (code_set_led1 (.str x t0) (E := E) (Q₁ := fun obj s₁ => obj = .ref s.heap.objs.size ∧ s₁ = { s with heap := s.heap.push { cls := .type "set", dict := none, data := .set #[] 0 (.fresh 0 0 (!w.params.followText "set-order")) } }) ⟨rfl, rfl⟩) fun r s₁ hr => ?_
  cases r with
  | error e => exact hr
  | ok fl =>
    cases fl with
    | ret obj =>
      obtain ⟨rfl, rfl⟩ := hr
      have hS : (s.heap.push { cls := .type "set", dict := none, data := .set #[] 0 (.fresh 0 0 (!w.params.followText "set-order")) }).get? s.heap.objs.size = some { cls := .type "set", dict := none, data := .set #[] 0 (.fresh 0 0 (!w.params.followText "set-order")) } := Heap.get?_push_size _ rfl
      have hT : Shared.TypeIs { s with heap := s.heap.push { cls := .type "set", dict := none, data := .set #[] 0 (.fresh 0 0 (!w.params.followText "set-order")) } } (.ref s.heap.objs.size) "set" := ⟨_, hS, rfl⟩
      have hli := PySem.F.called_set.init.lookup
      have hbi := PySem.F.called_set.init.bind (.ref s.heap.objs.size)
      repeat (any_goals (first | assumption | wp_step))

      refine codeAny_mono (codeAny_call_builtin (R := wants (fun r s₂ => r = .none ∧ ∃ h' tk, s₂ = { s with heap := h', toks := tk } ∧ SetTx P w h' s.heap.objs.size (signsTx x x.length) ∧
          (∀ b o, s.heap.get? b = some o → h'.get? b = some o)) E) PySem.F.called_set.init.plain PySem.F.entry_set_init (check_set_init_1 hT ?_)) fun r₂ s₂ hr₂ => ?_
      · have hsls : isSubtype (.type "str") (.type "set") = pure false := by rw [isSubtype_type]; kernel_rfl
        have hslf : isSubtype (.type "str") (.type "frozenset") = pure false := by rw [isSubtype_type]; kernel_rfl
        have hne : (Value.type "str" == Value.type "dict") = false := by decide
        unfold Builtin.«set.__init__» noKeywords Builtin.Frozenset.updateFrom
        generalize hPI : pyIter = PI
        wp_walk
        subst hPI
        refine wpAny_pyIter_str fun o St hW hst => ?_
        refine wpAny_bind (wpAny_runValue ?_)
        have hh3 : A.in1.in1.in1.handled = none := by simp [hh]
        have hz1 : (s.heap.push { cls := .type "set", dict := none, data := .set #[] 0 (.fresh 0 0 (!w.params.followText "set-order")) }).objs.size = s.heap.objs.size + 1 := Heap.size_push ..
        have hSf : s.heap.objs.size ∉ [(s.heap.push { cls := .type "set", dict := none, data := .set #[] 0 (.fresh 0 0 (!w.params.followText "set-order")) }).objs.size] := by
          rw [Heap.size_push]; simp only [List.mem_singleton]
          exact Nat.ne_of_lt (Nat.lt_succ_self _)
        refine loopTx ((hW _ hh3).toS) s.heap.objs.size hSf (show x.cps.size ≤ 1000 from hn) (x.cps.size - 0) 0 _ (by omega) (Nat.zero_le _) hst ?hS0 ?hR
        case hS0 => exact setTx_fresh (Heap.get?_push_of_some _ hS)
        case hR =>
          intro s' hm hS'
          obtain ⟨h', g2, d', tk', os'⟩ := s'
          have eg : g2 = s.gens := hm.gens
          have ed : d' = s.drawn := hm.drawn
          have eo : os' = s.os := hm.os
          subst eg; subst ed; subst eo
          show wpAny _ _ _ _ _ _
          refine wpAny_pure ?_
          show wpAny _ _ (ret Value.none) _ _ _
          refine wpAny_pure ⟨rfl, h', tk', rfl, hS', fun b o hb => ?_⟩
          have hlt := Heap.lt_size hb
          refine hm.heap b o ?_ (Heap.get?_push_of_some _ (Heap.get?_push_of_some _ hb))
          simp only [List.mem_cons, List.mem_singleton, List.not_mem_nil, or_false, not_or]
          exact ⟨Nat.ne_of_lt hlt, Nat.ne_of_lt (by rw [hz1]; exact Nat.lt_succ_of_lt hlt)⟩
      · cases r₂ with
        | error e => exact hr₂
        | ok fl₂ =>
          cases fl₂ with
          | ret r =>
            obtain ⟨rfl, h', tk, rfl, hS', hk'⟩ := hr₂
            repeat (any_goals (first | assumption | wp_step))
            exact h _ _ hS' hk'
          | _ => exact hr₂.elim
    | _ => exact hr.elim
theorem vals_strs : ∀ (l : List Value), (∀ v ∈ l, ∃ x tk, v = Value.str x tk) → ∃ ys : List Str, StrsAre l ys ∧ ys = l.map fun v => keyS (0, v)
  | [], _ => ⟨[], .nil, rfl⟩
  | v :: l, h => by
    obtain ⟨x, tk, rfl⟩ := h v List.mem_cons_self
    obtain ⟨ys, h1, h2⟩ := vals_strs l fun u hu => h u (List.mem_cons_of_mem _ hu)
    exact ⟨x :: ys, .cons x tk h1, by rw [h2]; rfl⟩
theorem sorted_setTx {a : Addr} {xs : List Str} {Q : Value → Shared → Prop} (R : SetTx P w s.heap a xs) (hh : A.handled = none) (h64 : xs.length < 64)
    (hQ : ∀ s' p (out : Array Value) (c : Nat) (ys : List Str), (∀ b o, s.heap.get? b = some o → s'.heap.get? b = some o) → s'.gens = s.gens → s'.os = s.os → s.heap.objs.size ≤ p →
      s'.heap.get? p = some (seqObj "list" out c) → StrsAre out.toList ys → ys.Perm xs → sortedS ys = true → Q (.ref p) s') :
    wpAny (model P w) A (call (.builtin "sorted") [.ref a]) Q E s := by
  obtain ⟨o, es, ep, t, ho, hex, hd, g, pm0, nd, hb, hf, hr, hl⟩ := R
  refine Calls.call_function_entry kind_sorted plain_sorted entry_sorted (args_sorted1 _) ?_
  unfold Builtin.«sorted»
  refine wpAny_bind (m := checkCount "sorted" 1 1 _) (wpAny_pure ?_)
  refine wpAny_bind (collect_set (A := A.in1) hh ⟨o, ho, hex.1, hd⟩ hf hb hr hl fun s1 vs k1 hz g1 o1 pm => ?_)
  have hvl : vs.length = xs.length := by
    have := pm0.length_eq
    rw [List.length_map] at this
    rw [pm.length_eq, List.length_map]; exact this
  obtain ⟨ys0, hI, ey⟩ := vals_strs vs fun v hv => by
    obtain ⟨e, he, q⟩ := List.mem_map.mp (pm.mem_iff.mp hv)
    obtain ⟨k, tk, h1, _⟩ := g e he
    exact ⟨k, tk, by rw [← q]; exact h1⟩
  have pk : ys0.Perm xs := by
    rw [ey]
    have q := pm.map fun v => keyS (0, v)
    rw [List.map_map] at q
    exact q.trans pm0
  refine wpAny_bind (wpAny_newList ?_ (by rw [hvl, sizeLine_eq]; omega))
  have hoL : (s1.heap.push (seqObj "list" vs.toArray 0)).get? s1.heap.objs.size = some (seqObj "list" vs.toArray 0) := Heap.get?_push_size _ rfl
  refine wpAny_bind (wpAny_holding (wpAny_call_entry slot_list_sort ⟨_, hoL, rfl⟩ entry_list_sort
    (list_sort_treeK strKind_oneLt hoL hI.keysOf (fun v₁ v₂ rest e => keyKind_strs (by rw [← e]; exact hI)) (by rw [hvl]; exact h64) fun st' hp hs => ⟨_, rfl, ?_⟩) (args_list_sort _)))
  obtain ⟨ys, h1, h2, h3⟩ := sorted_out_str hI hp hs
  obtain ⟨c, hc⟩ := sortedHeap_at (vs := vs) (out := (arrOf st').map (·.2)) hoL
  refine wpAny_pure ⟨_, rfl, hQ _ s1.heap.objs.size _ c ys (fun b u e => ?_) g1 o1 hz hc h1 (h2.trans pk) h3⟩
  have q := k1 b u e
  have hlt := Heap.lt_size q
  show (sortedHeap (s1.heap.push (seqObj "list" vs.toArray 0)) s1.heap.objs.size vs _).get? b = some u
  rw [sortedHeap_old (Nat.ne_of_lt hlt) (by rw [size_push']; exact Nat.lt_succ_of_lt hlt)]
  exact Heap.get?_push_of_some _ q
end
section
variable {X : Cx}
def tSortSet (ta : TE) : TE := fun σ H Q => ta σ H fun x H1 => ∃ z : Str, x = .str z ∧ z.length < 64 ∧ ∀ (ys : List Str) (p : Addr), ys.Nodup → (∀ y ∈ ys, ∃ c ∈ z.cps.toList, y = ⟨#[c]⟩) → H1 p = none → Q (.ref p) (upd H1 p (.lst (ys.map V.str)))
theorem signsTx_nodup (x : Str) (i : Nat) : (signsTx x i).Nodup := by
  have key : ∀ (ks xs : List Str), xs.Nodup → (ks.foldl addTx xs).Nodup := by
    intro ks
    induction ks with
    | nil => exact fun xs h => h
    | cons k ks ih =>
      intro xs h
      refine ih _ ?_
      unfold addTx
      split
      · exact h
      · rename_i hk
        exact (List.perm_append_singleton k xs).nodup_iff.mpr (List.nodup_cons.mpr ⟨hk, h⟩)
  exact key _ _ List.nodup_nil
theorem pe_sortSet {a : Expr} {ta : TE} {p p2 q pos : Pos} (hc : X.calm = true) (hg : Gl X "sorted") (hm : X.mg "sorted" = none) (hg2 : Gl X "set") (hm2 : X.mg "set" = none) (ha : PE X a ta)
    (na : starEach [a] X.env = (false, eval a X.env) :: starEach [] X.env := by rfl) : PE X (.Call (.Name "sorted" p) [.Call (.Name "set" p2) [a] [] q] [] pos) (tSortSet ta) := by
  refine ⟨fun pins s σ H Q I h => ?_⟩
  refine Call_ (ld_blt I hg hm (u := .builtin "sorted") (by decide +kernel) ?_)
  refine PyProof.Rows.callWith_builtin1 (PyProof.Rows.args_cons ?_ rfl) rfl rfl
  refine Call_ (ld_blt I hg2 hm2 PyProof.Rows.boot_set ?_)
  refine PyProof.Rows.callWith_type1 (PyProof.Rows.args_cons (thn (ha.run pins s σ H _ I h) fun v s1 ⟨x, H1, I1, r1, q1⟩ => PyProof.Rows.args_nil ?_) na) na rfl
  obtain ⟨z, rfl, hz, q1⟩ := q1
  obtain ⟨tk, rfl⟩ := r1
  refine call_set_str (I1.ok.hd hc) (by omega) fun h' tk hS hk => ?_
  refine PyProof.Rows.args_nil ?_
  have I2 : Inv X pins σ H1 { s1 with heap := h', toks := tk } := I1.kept fun b o e => hk b o e
  have hS2 : SetTx X.prog X.w ({ s1 with heap := h', toks := tk } : Shared).heap s1.heap.objs.size (signsTx z z.length) := hS
  generalize ({ s1 with heap := h', toks := tk } : Shared) = s2 at I2 hS2 ⊢
  refine sorted_setTx (s := s2) hS2 (I2.ok.hd hc) (by have := signsTx_len z z.length; omega) fun s' p out c ys k g o hp hg hi pm hs => ?_
  have hlen : (ys.map V.str).length ≤ sizeLine := by
    have := signsTx_len z z.length
    rw [List.length_map, pm.length_eq, sizeLine_eq]; omega
  have hn : H1 p = none := I2.hok.fresh hp
  have J : Inv X pins σ (upd H1 p (.lst (ys.map V.str))) { s2 with heap := s'.heap, gens := s'.gens, drawn := s'.drawn, toks := s'.toks } :=
    I2.call (ch := []) (Un.laid k hp hn) (I2.hok.laid k hp ⟨hlen, out.toList, c, vals_of_strs hi, hg⟩) (by rw [g]; exact I2.bare) (fun _ z => nomatch z)
  have e : s' = { s2 with heap := s'.heap, gens := s'.gens, drawn := s'.drawn, toks := s'.toks } := by
    cases s'
    cases s2
    cases o
    rfl
  rw [e]
  exact ⟨.ref p, _, J, rfl, q1 ys p (pm.nodup_iff.mpr (signsTx_nodup z z.length)) (fun y hy => signsTx_mem (pm.mem_iff.mp hy)) hn⟩
variable {sl : Sl} {rs : List Res} {Q : EQ}
/-- sorted(set(text)): its signs, each once -/
theorem ew_sortSet {a : Expr} {p p2 q pos : Pos} (hc : X.calm = true) (hm : X.mg "sorted" = none) (hm2 : X.mg "set" = none) (h : EW X sl a rs fun r rs1 => ∃ z : Str, r = .sh (.str z) ∧ z.length < 64 ∧ ∀ cs : List Nat, cs.Nodup → (∀ c ∈ cs, c ∈ z.cps.toList) → Q (.rf rs1.length) (rs1 ++ [.lst (cs.map fun c => Da.str ⟨#[c]⟩)]))
    (hg : Gl X "sorted" := by rfl) (hg2 : Gl X "set" := by rfl) (na : starEach [a] X.env = (false, eval a X.env) :: starEach [] X.env := by rfl) : EW X sl (.Call (.Name "sorted" p) [.Call (.Name "set" p2) [a] [] q] [] pos) rs Q :=
  ew_of (pe_sortSet hc hg hm hg2 hm2 pe_S na) fun T σ H R S => (h.go T σ H R S).mono fun v H1 ⟨T1, rs1, r, l1, R1, p1, z, e, hz, q⟩ => by
    subst e
    refine ⟨z, strOf p1, hz, fun ys pp hnd hys hp => ?_⟩
    obtain ⟨cs, rfl⟩ : ∃ cs : List Nat, ys = cs.map fun c => (⟨#[c]⟩ : Str) := by
      clear hnd
      induction ys with
      | nil => exact ⟨[], rfl⟩
      | cons y ys ih =>
        obtain ⟨c, _, e⟩ := hys y List.mem_cons_self
        obtain ⟨cs, e2⟩ := ih fun u hu => hys u (List.mem_cons_of_mem _ hu)
        exact ⟨c :: cs, by rw [e, e2]; rfl⟩
    have hq := q cs (List.Pairwise.of_map _ (fun a b hab e => hab (by rw [e])) hnd) fun c hc => by
      obtain ⟨c', h1, h2⟩ := hys ⟨#[c]⟩ (List.mem_map.mpr ⟨c, hc, rfl⟩)
      have : c = c' := by simpa using h2
      rw [this]; exact h1
    have hr := Rps.ofStrs (K := X.K) (H := T1.H0) (cs.map fun c => (⟨#[c]⟩ : Str))
    rw [List.map_map, List.map_map] at hr
    rw [List.map_map]
    exact ⟨_, _, .rf rs1.length, l1.trans (T1.le_more pp), make_lst R1 hp hr, at_more R1 pp, hq⟩
end
end DL

set_option Elab.async false
set_option linter.all false
set_option maxRecDepth 100000
set_option maxHeartbeats 4000000
namespace DL
open PySem PySem.Spec L2
section
variable {X : Cx} {sl : Sl} {rs : List Res} {Q : EQ} {k : Nat}
theorem gh_tray1 {K : PySem.W.Frag} {m m' : Nat} (h : rs[k]? = some (.tray 1 m)) (hm : m ≤ m') : Gh K rs (rs.set k (.tray 1 m')) := fun T H R => ⟨T, .refl T, by rw [List.length_set]; exact R.n, R.h0, R.fr, R.dj, R.df, fun j r e => by
  by_cases hj : k = j
  · subst hj
    rw [List.getElem?_set_self (List.getElem?_eq_some_iff.mp h).1] at e
    cases e
    obtain ⟨h1, g, gs, f, u, h2, h3, h4, h5, h6, h7, h8, h9, h10⟩ := R.rs _ _ h
    exact ⟨h1, g, gs, f, u, h2, h3, h4, h5, h6, h7, h8, h9, by omega⟩
  · rw [List.getElem?_set_ne hj] at e; exact R.rs j r e, R.tu⟩
theorem Rps.rep {K : PySem.W.Frag} {H : Hp} {vs : List V} {ds : List Da} (h : Rps K H vs ds) : ∀ n, Rps K H (List.replicate n vs).flatten (List.replicate n ds).flatten
  | 0 => .nil
  | n + 1 => by
    rw [List.replicate_succ, List.replicate_succ, List.flatten_cons, List.flatten_cons]
    exact h.app (Rps.rep h n)
theorem bv_repL {ds : List Da} {n : Nat} {r1 : Rv} (w1 : Vw rs r1 (.lst ds)) (h1 : n ≤ 1000) (hl : ds.length * n ≤ 100000) (q : Q (.sh (.lst (List.replicate n ds).flatten)) rs) : BV X (binaryOp .Mult) r1 (.sh (.int (n : Nat))) rs Q :=
  bv_of op_rep fun T H v1 v2 hR p1 p2 => by
    obtain ⟨a, vs, e1, h1', q1⟩ := w1.lstv' hR p1
    refine ⟨a, (n : Int), vs, e1, intOf p2, h1', by omega, by omega, ?_, fun p hp => ?_⟩
    · rw [q1.len, Int.toNat_natCast]; exact Nat.le_trans hl (by decide)
    obtain ⟨R2, l2⟩ := hR.share (o := .lst (List.replicate ((n : Int)).toNat vs).flatten) hp
    rw [Int.toNat_natCast]
    rw [Int.toNat_natCast] at R2 l2
    exact ⟨_, rs, .sh (.lst _), l2, R2, Rp.lst upd_same ((q1.rep n).mono l2.h0), q⟩
end
theorem joinL_nil : ∀ ps : List (List Nat), TL.joinL [] ps = ps.flatten
  | [] => rfl
  | [p] => by simp [TL.joinL]
  | p :: q :: r => by
    show p ++ ([] ++ TL.joinL [] (q :: r)) = _
    rw [joinL_nil (q :: r)]; simp
theorem join_signs (cs : List Nat) : (Txt.join "" (cs.map fun c => (⟨#[c]⟩ : Str))).cps.toList = cs := by
  show TL.tl (Txt.join "" (cs.map fun c => (⟨#[c]⟩ : Str))) = cs
  rw [TL.join_eq, TL.tl_join, show TL.tl ("" : Str) = [] from rfl, joinL_nil, List.map_map]
  induction cs with
  | nil => rfl
  | cons c cs ih =>
    rw [List.map_cons, List.flatten_cons, ih]; rfl
end DL

set_option Elab.async false
set_option linter.all false
set_option maxRecDepth 100000
set_option maxHeartbeats 4000000
namespace DL
open PySem PySem.Spec L2
/-! ## rows drawn by letters that are there -/
theorem nodup_len : ∀ (cs L : List Nat), cs.Nodup → (∀ c ∈ cs, c ∈ L) → cs.length ≤ L.length
  | [], _, _, _ => Nat.zero_le _
  | c :: cs, L, hn, hs => by
    have h1 := hs c List.mem_cons_self
    have h2 := List.nodup_cons.mp hn
    have := nodup_len cs (L.erase c) h2.2 fun d hd => by
      refine (List.mem_erase_of_ne fun e => ?_).mpr (hs d (List.mem_cons_of_mem _ hd))
      subst e; exact h2.1 hd
    rw [List.length_erase_of_mem h1] at this
    have := List.length_pos_of_mem h1
    rw [List.length_cons]; omega
theorem lett_nodup {x : Str} {cs : List Nat} (h : lett x) (hn : cs.Nodup) (hs : ∀ c ∈ cs, c ∈ x.cps.toList) : cs.length ≤ 6 :=
  nodup_len cs [97, 98, 99, 100, 101, 102] hn fun c hc => by
    have := h c (hs c hc)
    simp only [List.mem_cons, List.not_mem_nil, or_false]; omega
def sg (c : Nat) : Str := ⟨#[c]⟩
theorem sg_inj {c d : Nat} (h : sg c = sg d) : c = d := by simpa [sg] using h
structure RowsI (cs ds : List Nat) (i j : Nat) (rows : List RowT) : Prop where
  nd : (rows.map fun r => (r.1, r.2.1)).Nodup
  ws : ∀ r ∈ rows, r.2.2 = "first" ∨ r.2.2 = "second" ∨ r.2.2 = "other"
  len : rows.length ≤ 6 * i + j
  at_ : ∀ r ∈ rows, (∃ a c : Nat, a < i ∧ cs[a]? = some c ∧ r.1 = sg c) ∨ (∃ c b d : Nat, cs[i]? = some c ∧ b < j ∧ ds[b]? = some d ∧ r.1 = sg c ∧ r.2.1 = sg d)
theorem RowsI.nil {cs ds : List Nat} : RowsI cs ds 0 0 [] := ⟨List.nodup_nil, fun _ h => (nomatch h), Nat.le_refl _, fun _ h => (nomatch h)⟩
theorem RowsI.skip {cs ds : List Nat} {i j : Nat} {rows : List RowT} (h : RowsI cs ds i j rows) : RowsI cs ds i (j + 1) rows :=
  ⟨h.nd, h.ws, by have := h.len; omega, fun r hr => (h.at_ r hr).imp id fun ⟨c, b, d, e1, e2, e3, e4, e5⟩ => ⟨c, b, d, e1, by omega, e3, e4, e5⟩⟩
theorem RowsI.next {cs ds ds' : List Nat} {i j : Nat} {rows : List RowT} (h : RowsI cs ds i j rows) (hj : j ≤ 6) : RowsI cs ds' (i + 1) 0 rows :=
  ⟨h.nd, h.ws, by have := h.len; omega, fun r hr => .inl (by
    rcases h.at_ r hr with ⟨a, c, e1, e2, e3⟩ | ⟨c, b, d, e1, e2, e3, e4, e5⟩
    · exact ⟨a, c, by omega, e2, e3⟩
    · exact ⟨i, c, by omega, e1, e4⟩)⟩
theorem nodup_get {cs : List Nat} (h : cs.Nodup) {a b c : Nat} (h1 : cs[a]? = some c) (h2 : cs[b]? = some c) : a = b := by
  obtain ⟨ha, e1⟩ := List.getElem?_eq_some_iff.mp h1
  obtain ⟨hb, e2⟩ := List.getElem?_eq_some_iff.mp h2
  rcases Nat.lt_trichotomy a b with z | z | z
  · exact absurd (e1.trans e2.symm) (List.pairwise_iff_getElem.mp h a b ha hb z)
  · exact z
  · exact absurd (e2.trans e1.symm) (List.pairwise_iff_getElem.mp h b a hb ha z)
theorem RowsI.add {cs ds : List Nat} {i j c d : Nat} {y : Str} {rows : List RowT} (h : RowsI cs ds i j rows) (hc : cs.Nodup) (hd : ds.Nodup) (e1 : cs[i]? = some c) (e2 : ds[j]? = some d) (hy : y = "first" ∨ y = "second" ∨ y = "other") :
    RowsI cs ds i (j + 1) (rows ++ [(sg c, sg d, y)]) := by
  refine ⟨?_, fun r hr => ?_, by have := h.len; rw [List.length_append, List.length_singleton]; omega, fun r hr => ?_⟩
  · rw [List.map_append]
    refine List.nodup_append.mpr ⟨h.nd, List.pairwise_singleton _ _, fun x hx z hz e => ?_⟩
    have hz : z = (sg c, sg d) := by simpa using hz
    subst hz; subst e
    obtain ⟨r, hr, er⟩ := List.mem_map.mp hx
    have er1 : r.1 = sg c := congrArg Prod.fst er
    have er2 : r.2.1 = sg d := congrArg Prod.snd er
    rcases h.at_ r hr with ⟨a, c', f1, f2, f3⟩ | ⟨c', b, d', f1, f2, f3, f4, f5⟩
    · have : c' = c := sg_inj (f3.symm.trans er1)
      subst this
      have := nodup_get hc f2 e1
      omega
    · have : d' = d := sg_inj (f5.symm.trans er2)
      subst this
      have := nodup_get hd f3 e2
      omega
  · rcases List.mem_append.mp hr with hr | hr
    · exact h.ws r hr
    · have : r = (sg c, sg d, y) := by simpa using hr
      subst this; exact hy
  · rcases List.mem_append.mp hr with hr | hr
    · exact (h.at_ r hr).imp id fun ⟨c, b, d, e1, e2, e3, e4, e5⟩ => ⟨c, b, d, e1, by omega, e3, e4, e5⟩
    · have : r = (sg c, sg d, y) := by simpa using hr
      subst this
      exact .inr ⟨c, j, d, e1, by omega, e2, rfl, rfl⟩
theorem RowsI.ok {cs ds : List Nat} {i j : Nat} {rows : List RowT} (h : RowsI cs ds i j rows) (hl : 6 * i + j ≤ 1000) : RowsOk rows := ⟨h.nd, h.ws, Nat.le_trans h.len hl⟩
section
variable {X : Cx} {sl : Sl} {rs : List Res} {pos : Pos} {R : Out}
/-- for, the word of the turns told once the things to walk are known -/
theorem s_forE {tg iter : Expr} {body : List Stmt} (hi : IW X sl tg iter rs fun ds rs1 => ∃ Pv : Nat → SQ, Pv 0 sl rs1 ∧ (∀ k d sl' rs', ds[k]? = some d → Pv k sl' rs' → GW X tg (.sh d) sl' rs' fun sl2 rs2 => SW X sl2 body rs2 { R with nx := Pv (k + 1), ct := Pv (k + 1), bk := R.nx }) ∧ ∀ sl' rs', Pv ds.length sl' rs' → R.nx sl' rs')
    (hp : PassesOwn (model X.prog X.w) X.A X.env X.xe := by exact PassesOwn.never) (hc : X.calm = true := by rfl) (hs : ∀ x, foldedSetIterable iter X.env x = pure x := by intro _; rfl) : S1 X sl (.For tg iter body [] pos) rs R := by
  refine s1_of (ps_for hp hc pi_S pg_S pss_S hs) fun T σ H hR S => (hi.go T σ H hR S).mono ?_
  rintro J H1 ⟨T1, rs1, ds, l, R1, it, Pv, p0, ps, pe⟩
  refine ⟨fun i m σ H => m = ds.length - i ∧ i ≤ ds.length ∧ SPost X.K T1 (Pv i) σ H, ⟨ds.length, by simp, Nat.zero_le _, T1, sl, rs1, .refl _, R1, S.le l, p0⟩, ?_⟩
  rintro i m σ H ⟨rfl, hi, T', sl', rs', l', R', S', p⟩
  by_cases hlt : i < ds.length
  · refine .inr ⟨it.go i T' rs' H hlt l' R', SPost X.K T1 (Pv (i + 1)), fun σ' H' p' => ⟨ds.length - (i + 1), by omega, rfl, hlt, p'⟩, fun x H' y => ?_⟩
    obtain ⟨T2, l2, R2, rp⟩ := it.yld i _ T' rs' H x H' (List.getElem?_eq_getElem hlt) l' R' y
    have hb := ps i _ sl' rs' (List.getElem?_eq_getElem hlt) p
    refine (hb.go T2 σ H' x R2 (S'.le l2) rp).mono fun σ3 H3 ⟨T3, sl3, rs3, l3, R3, S3, q⟩ => (q T3 σ3 H3 R3 S3).mono
      ⟨fun _ _ q => q.le ((l'.trans l2).trans l3), fun _ _ q => q.le (((l.trans l').trans l2).trans l3), fun _ _ q => q.le (((l.trans l').trans l2).trans l3), fun _ _ q => q.le ((l'.trans l2).trans l3)⟩
  · have e : i = ds.length := by omega
    subst e
    exact .inl ⟨it.stop T' rs' H l' R', T', sl', rs', l.trans l', R', S', pe sl' rs' p⟩
end
end DL

set_option Elab.async false
set_option linter.all false
set_option maxRecDepth 100000
set_option maxHeartbeats 4000000
namespace DL
open PySem PySem.Spec L2
open PyProof.Rows hiding St
/-! ## least and sorted of plain data of any depth -/
mutual
def pD : Da → PyData
  | .bl b => .bool b | .int i => .int i | .str x => .str x | .tup ds => .tuple (pDs ds) | .lst ds => .list (pDs ds) | _ => .none
def pDs : List Da → List PyData
  | [] => []
  | d :: ds => pD d :: pDs ds
end
mutual
def plain : Da → Bool
  | .non => true | .bl _ => true | .int _ => true | .str _ => true | .tup ds => plains ds | .lst ds => plains ds | _ => false
def plains : List Da → Bool
  | [] => true
  | d :: ds => plain d && plains ds
end
theorem pDs_map : ∀ ds : List Da, pDs ds = ds.map pD
  | [] => rfl
  | d :: ds => by rw [pDs, pDs_map ds]; rfl
theorem plains_mem : ∀ {ds : List Da}, plains ds = true → ∀ d ∈ ds, plain d = true
  | d :: ds, h, z, hz => by
    rw [plains, Bool.and_eq_true] at h
    rcases List.mem_cons.mp hz with e | e
    · rw [e]; exact h.1
    · exact plains_mem h.2 z e
theorem plains_of : ∀ {ds : List Da}, (∀ d ∈ ds, plain d = true) → plains ds = true
  | [], _ => rfl
  | d :: ds, h => by rw [plains, h d List.mem_cons_self, plains_of fun z hz => h z (List.mem_cons_of_mem _ hz)]; rfl
section
variable {X : Cx} {pins : List (Addr × Obj)} {σ : L2.St} {H H0 : Hp} {s : Shared}
theorem reads_tup (I : L2.Inv X pins σ H s) (k : Kp H0 H) {v : V} {u : Value} {ds : List Da} (h : Rp X.K H0 v (.tup ds)) (r : RelV v u) (ih : ∀ {vs : List V} {us : List Value}, Rps X.K H0 vs ds → Vals vs us → ∃ as, ReadsAll s.heap us (pDs ds) as) : ∃ as, Reads s.heap u (.tuple (pDs ds)) as := by
  cases h with
  | tup h rs =>
    obtain ⟨its, rv, hl, hz⟩ := I.tuple (SqT.of (k _ _ h))
    obtain ⟨as, hr⟩ := ih rs rv
    have r : u = Value.ref _ := r
    subst r
    obtain ⟨o, ho, hc, n, hd⟩ := hl
    exact ⟨as, .tuple ho hc hd (by simpa using hr)⟩
theorem reads_lst (I : L2.Inv X pins σ H s) (k : Kp H0 H) {v : V} {u : Value} {ds : List Da} (h : Rp X.K H0 v (.lst ds)) (r : RelV v u) (ih : ∀ {vs : List V} {us : List Value}, Rps X.K H0 vs ds → Vals vs us → ∃ as, ReadsAll s.heap us (pDs ds) as) : ∃ as, Reads s.heap u (.list (pDs ds)) as := by
  cases h with
  | lst h rs =>
    obtain ⟨its, rv, hl, hz⟩ := I.list (SqL.of (k _ _ h))
    obtain ⟨as, hr⟩ := ih rs rv
    have r : u = Value.ref _ := r
    subst r
    obtain ⟨o, n, ho, hc, hd, hs⟩ := hl
    exact ⟨_, .list ho hc hs (by simpa using hr)⟩
theorem reads_cons {vs : List V} {us : List Value} {d : Da} {ds : List Da} (h : Rps X.K H0 vs (d :: ds)) (r : Vals vs us) (h1 : ∀ {v : V} {u : Value}, Rp X.K H0 v d → RelV v u → ∃ as, Reads s.heap u (pD d) as) (h2 : ∀ {vs : List V} {us : List Value}, Rps X.K H0 vs ds → Vals vs us → ∃ as, ReadsAll s.heap us (pDs ds) as) : ∃ as, ReadsAll s.heap us (pDs (d :: ds)) as := by
  cases h with
  | cons rp rps =>
    cases r with
    | cons r1 r2 =>
      obtain ⟨as, h1⟩ := h1 rp r1
      obtain ⟨bs, h2⟩ := h2 rps r2
      exact ⟨_, .cons h1 h2⟩
mutual
theorem reads_of (I : L2.Inv X pins σ H s) (k : Kp H0 H) : ∀ (d : Da) {v : V} {u : Value}, plain d = true → Rp X.K H0 v d → RelV v u → ∃ as, Reads s.heap u (pD d) as
  | .non, _, _, _, h, r => by cases h; cases r; exact ⟨_, .none⟩
  | .bl b, _, _, _, h, r => by cases h; cases r; exact ⟨_, .bool b⟩
  | .int i, _, _, _, h, r => by cases h; obtain ⟨t, rfl⟩ := r; exact ⟨_, .int i t⟩
  | .str x, _, _, _, h, r => by cases h; obtain ⟨t, rfl⟩ := r; exact ⟨_, .str x t⟩
  | .tup ds, _, _, hp, h, r => reads_tup I k h r fun a b => readsAll_of I k ds hp a b
  | .lst ds, _, _, hp, h, r => reads_lst I k h r fun a b => readsAll_of I k ds hp a b
  | .tupK _, _, _, hp, _, _ => nomatch hp
  | .lstK _, _, _, hp, _, _ => nomatch hp
  | .dT _, _, _, hp, _, _ => nomatch hp
  | .dK _, _, _, hp, _, _ => nomatch hp
  | .ins _ _, _, _, hp, _, _ => nomatch hp
  | .ty _, _, _, hp, _, _ => nomatch hp
  | .adr _, _, _, hp, _, _ => nomatch hp
  | .dL _, _, _, hp, _, _ => nomatch hp
  | .exn _ _, _, _, hp, _, _ => nomatch hp
theorem readsAll_of (I : L2.Inv X pins σ H s) (k : Kp H0 H) : ∀ (ds : List Da) {vs : List V} {us : List Value}, plains ds = true → Rps X.K H0 vs ds → Vals vs us → ∃ as, ReadsAll s.heap us (pDs ds) as
  | [], _, _, _, h, r => by cases h; cases r; exact ⟨_, .nil⟩
  | d :: ds, _, _, hp, h, r => by
    have hp' : plain d = true ∧ plains ds = true := by rw [plains, Bool.and_eq_true] at hp; exact hp
    exact reads_cons h r (fun a b => reads_of I k d hp'.1 a b) fun a b => readsAll_of I k ds hp'.2 a b
end
end
end DL

set_option Elab.async false
set_option linter.all false
set_option maxRecDepth 100000
set_option maxHeartbeats 2000000
namespace DL
open PySem PySem.Spec L2
open PyProof.Rows hiding St
section
variable {X : Cx} {rs : List Res} {Q : EQ} {r1 : Rv}
theorem rps_getV {vs : List V} {us : List Value} (rv : Vals vs us) {i : Nat} {u : Value} (h : us[i]? = some u) : ∃ v, vs[i]? = some v ∧ RelV v u := by
  induction rv generalizing i with
  | nil => simp at h
  | cons r1 r2 ih =>
    cases i with
    | zero => cases h; exact ⟨_, rfl, r1⟩
    | succ i => exact ih h
theorem minD_mem : ∀ (xs : List PyData) (x : PyData), PySem.W.minD x xs ∈ x :: xs
  | [], x => List.mem_cons_self
  | y :: ys, x => by
    show PySem.W.minD (if PySem.W.dataLt y x then y else x) ys ∈ _
    rcases List.mem_cons.mp (minD_mem ys (if PySem.W.dataLt y x then y else x)) with h | h
    · rw [h]; split
      · exact List.mem_cons_of_mem _ List.mem_cons_self
      · exact List.mem_cons_self
    · exact List.mem_cons_of_mem _ (List.mem_cons_of_mem _ h)
/-- min(xs): one of the things, of the least -/
theorem cv_minP (hcalm : X.calm = true) (hu : Un2 X) {d : Da} {ds : List Da} (w : Vw rs r1 (.lst (d :: ds))) (hp : plains (d :: ds) = true) (ha : PySem.W.AlikeAll (pD d :: pDs ds)) (hdep : PyData.depthAll (pD d :: pDs ds) ≤ 20)
    (q : ∀ (i : Nat) (z : Da), (d :: ds)[i]? = some z → pD z = PySem.W.minD (pD d) (pDs ds) → Q (.sh z) rs) : CV X (.builtin "min") [r1] rs Q :=
  ⟨fun T H vs R pp pins s σ us I r => by
    obtain ⟨v, rfl, p⟩ := rp1 pp
    obtain ⟨a, ws, e, hl, rp⟩ := w.lstv' R p
    subst e
    obtain ⟨u, rfl, ru⟩ := vals1 r
    obtain rfl : u = Value.ref a := ru
    obtain ⟨its, rv, hpl, hz⟩ := I.list (SqL.of hl)
    obtain ⟨as, hr⟩ := readsAll_of I R.h0 _ hp rp rv
    have hr : ReadsAll s.heap its (pD d :: pDs ds) as := hr
    refine PySem.W.min_list_data (I.ok.hd hcalm) hpl.isList (by rw [List.toList_toArray]; exact hr) ha (by unfold Un2 at hu; omega) fun i v' h' tk bs hi hrd hk => ?_
    have hi : its[i]? = some v' := by simpa using hi
    obtain ⟨x, hx, rx⟩ := rps_getV rv hi
    obtain ⟨z, hz1, rz⟩ := rp.getV hx
    have I' : L2.Inv X pins σ H { s with heap := h', toks := tk } := I.kept fun b o e => hk b o e
    obtain ⟨as2, hr2⟩ := reads_of I' R.h0 z (plains_mem hp z (List.mem_of_getElem? hz1)) rz rx
    have hal : PySem.W.alike (PySem.W.minD (pD d) (pDs ds)) (pD z) = true := ha.1 _ (minD_mem _ _) _ (by have := List.mem_map_of_mem (f := pD) (List.mem_of_getElem? hz1); rw [List.map_cons, ← pDs_map] at this; exact this)
    have eq : pD z = PySem.W.minD (pD d) (pDs ds) := (PySem.W.alike_unique _ _ _ _ _ hal hrd hr2).symm
    exact ⟨x, H, I', rx, epost R (r := .sh z) rz (q i z hz1 eq)⟩⟩
theorem zipV : ∀ {vs : List V} {us : List Value} {ds : List Da} {K : PySem.W.Frag} {H : Hp}, Rps K H vs ds → Vals vs us → PySem.W.EachIs (fun u (p : V × Da) => RelV p.1 u ∧ Rp K H p.1 p.2) us (vs.zip ds)
  | _, _, _, _, _, .nil, r => by cases r; exact .nil
  | _, _, _, _, _, .cons rp rps, r => by
    cases r with
    | cons r1 r2 => exact .cons ⟨r1, rp⟩ (zipV rps r2)
theorem zipV_out {K : PySem.W.Frag} {H : Hp} : ∀ {us : List Value} {ps : List (V × Da)}, PySem.W.EachIs (fun u (p : V × Da) => RelV p.1 u ∧ Rp K H p.1 p.2) us ps → Vals (ps.map (·.1)) us ∧ Rps K H (ps.map (·.1)) (ps.map (·.2))
  | _, _, .nil => ⟨.nil, .nil⟩
  | _, _, .cons h t => by
    obtain ⟨a, b⟩ := zipV_out t
    exact ⟨.cons h.1 a, .cons h.2 b⟩
theorem _root_.PySem.W.EachIs.mem_reads {X : Cx} {pins : List (Addr × Obj)} {σ : L2.St} {H H0 : Hp} {s : Shared} (I : L2.Inv X pins σ H s) (k : Kp H0 H) {ds : List Da} (hp : plains ds = true) : ∀ {us : List Value} {ps : List (V × Da)}, PySem.W.EachIs (fun u (p : V × Da) => RelV p.1 u ∧ Rp X.K H0 p.1 p.2) us ps → (∀ z ∈ ps, z.2 ∈ ds) → PySem.W.EachIs (fun u (p : V × Da) => ∃ as, Reads s.heap u (pD p.2) as) us ps
  | _, _, .nil, _ => .nil
  | _, _, .cons h t, hm => .cons (reads_of I k _ (plains_mem hp _ (hm _ List.mem_cons_self)) h.2 h.1) (PySem.W.EachIs.mem_reads I k hp t fun z hz => hm z (List.mem_cons_of_mem _ hz))
def sortP (ds : List Da) : List Da := ds.mergeSort (PySem.W.dataLe false pD)
theorem depthAll_mem : ∀ {xs : List PyData} {x : PyData}, x ∈ xs → x.depth ≤ PyData.depthAll xs
  | y :: ys, x, h => by
    rw [PyData.depthAll]
    rcases List.mem_cons.mp h with e | e
    · rw [e]; exact Nat.le_max_left _ _
    · exact Nat.le_trans (depthAll_mem e) (Nat.le_max_right _ _)
/-- sorted(xs) of plain things of one kind -/
theorem cv_sortedP (hu : Un2 X) {ds : List Da} (w : Vw rs r1 (.lst ds)) (hp : plains ds = true) (ha : PySem.W.AllAlike (ds.map pD)) (hk : PySem.W.Sortable (ds.map pD)) (hdep : PyData.depthAll (pDs ds) ≤ 20)
    (q : Q (.sh (.lst (sortP ds))) rs) : CV X (.builtin "sorted") [r1] rs Q :=
  ⟨fun T H vs R pp pins s σ us I r => by
    obtain ⟨v, rfl, p⟩ := rp1 pp
    obtain ⟨a, ws, e, hl, rp⟩ := w.lstv' R p
    subst e
    obtain ⟨u, rfl, ru⟩ := vals1 r
    obtain rfl : u = Value.ref a := ru
    obtain ⟨its, rv, hpl, hz⟩ := I.list (SqL.of hl)
    have hlen := rp.len
    have hzip : (ws.zip ds).map (·.2) = ds := List.map_snd_zip (by omega)
    have hmem : ∀ z : V × Da, z ∈ ws.zip ds → z.2 ∈ ds := fun z hz => by rw [← hzip]; exact List.mem_map_of_mem hz
    have hb : (ws.zip ds).map (fun z => pD z.2) = ds.map pD := by
      rw [← hzip, List.map_map, hzip]; rfl
    refine PySem.W.sorted_data (enc := fun z : V × Da => pD z.2) (R := fun u (z : V × Da) => RelV z.1 u ∧ Rp X.K T.H0 z.1 z.2) (bs := ws.zip ds) hpl.isList (zipV rp rv) ?_ (by rw [hb]; exact ha) (by rw [hb]; exact hk) (by rw [List.length_zip]; omega) (fun z hz => ?_) fun out hlo ho => ?_
    · exact PySem.W.EachIs.mem_reads I R.h0 hp (zipV rp rv) hmem
    · have h1 := depthAll_mem (xs := pDs ds) (x := pD z.2) (by rw [pDs_map]; exact List.mem_map_of_mem (hmem z hz))
      unfold Un2 at hu; omega
    · obtain ⟨hv, hr⟩ := zipV_out ho
      have e2 : ((ws.zip ds).mergeSort (PySem.W.dataLe false fun z : V × Da => pD z.2)).map (·.2) = sortP ds := by
        unfold sortP
        have := List.map_mergeSort (r := PySem.W.dataLe false fun z : V × Da => pD z.2) (s := PySem.W.dataLe false pD) (f := fun z : V × Da => z.2) (l := ws.zip ds) (fun a _ b _ => rfl)
        rw [this, hzip]
      rw [e2] at hr
      obtain ⟨n, hn⟩ := sortedAll_at s.heap its (List.toArray out)
      have hd : s.heap.objs.size ≤ s.heap.objs.size + 1 := Nat.le_succ _
      have hfr := I.hok.fresh hd
      refine ⟨.ref (s.heap.objs.size + 1), upd H (s.heap.objs.size + 1) (.lst (((ws.zip ds).mergeSort (PySem.W.dataLe false fun z : V × Da => pD z.2)).map (·.1))), I.laid (t' := s.toks) (fun b o e => sortedAll_old e) hd ⟨?_, out, n, hv, by simpa using hn⟩, rfl, ?_⟩
      · rw [List.length_map, List.length_mergeSort, List.length_zip]; omega
      · obtain ⟨R2, l2⟩ := R.share (o := .lst (((ws.zip ds).mergeSort (PySem.W.dataLe false fun z : V × Da => pD z.2)).map (·.1))) hfr
        exact ⟨_, rs, .sh (.lst _), l2, R2, Rp.lst upd_same (hr.mono l2.h0), q⟩⟩
end
end DL

set_option Elab.async false
set_option linter.all false
set_option maxRecDepth 100000
set_option maxHeartbeats 2000000
namespace DL
open PySem PySem.Spec L2
/-! ## dicts by numbered keys -/
def numD (ky : Nat → List Key) (f : Nat → Da) (t : Nat) : List (List Key × Da) := (List.range t).map fun u => (ky u, f u)
theorem numD_len (ky : Nat → List Key) (f : Nat → Da) (t : Nat) : (numD ky f t).length = t := by unfold numD; rw [List.length_map, List.length_range]
theorem numD_succ (ky : Nat → List Key) (f : Nat → Da) (t : Nat) : numD ky f (t + 1) = numD ky f t ++ [(ky t, f t)] := by
  unfold numD; rw [List.range_succ, List.map_append]; rfl
theorem valD_app (a b : List (List Key × Da)) (k : List Key) : valD (a ++ b) k = match valD a k with | some d => some d | none => valD b k := by
  induction a with
  | nil => rfl
  | cons p a ih =>
    rw [List.cons_append]
    by_cases h : p.1 = k
    · rw [valD_pos h, valD_pos h]
    · rw [valD_neg h, valD_neg h, ih]
theorem numD_new {ky : Nat → List Key} {f : Nat → Da} {k : List Key} : ∀ {t : Nat}, (∀ u, u < t → ky u ≠ k) → valD (numD ky f t) k = none
  | 0, _ => rfl
  | t + 1, h => by
    rw [numD_succ, valD_app, numD_new fun u hu => h u (by omega)]
    show valD [(ky t, f t)] k = none
    rw [valD_neg (h t (by omega))]; rfl
theorem numD_get {ky : Nat → List Key} {f : Nat → Da} {t u : Nat} (hu : u < t) (h : ∀ a b, a < t → b < t → ky a = ky b → a = b) : valD (numD ky f t) (ky u) = some (f u) := by
  induction t with
  | zero => omega
  | succ t ih =>
    rw [numD_succ, valD_app]
    by_cases e : u = t
    · subst e
      rw [numD_new fun v hv z => absurd (h v u (by omega) (by omega) z) (by omega)]
      show valD [(ky u, f u)] (ky u) = _
      rw [valD_pos rfl]
    · rw [ih (by omega) fun a b ha hb => h a b (by omega) (by omega)]
end DL

set_option Elab.async false
set_option linter.all false
set_option maxRecDepth 100000
set_option maxHeartbeats 1000000
namespace DL
open PySem PySem.Spec L2
/-! ## rings: what comes round where each thing leads on to one -/
section
variable {κ : Type} [DecidableEq κ]
theorem nodup_lenG : ∀ (cs L : List κ), cs.Nodup → (∀ c ∈ cs, c ∈ L) → cs.length ≤ L.length
  | [], _, _, _ => Nat.zero_le _
  | c :: cs, L, hn, hs => by
    have h1 := hs c List.mem_cons_self
    have h2 := List.nodup_cons.mp hn
    have := nodup_lenG cs (L.erase c) h2.2 fun d hd => by
      refine (List.mem_erase_of_ne fun e => ?_).mpr (hs d (List.mem_cons_of_mem _ hd))
      subst e; exact h2.1 hd
    rw [List.length_erase_of_mem h1] at this
    have := List.length_pos_of_mem h1
    rw [List.length_cons]; omega
/-- gone on till a thing was met already: met so far, met by this way, where it ends -/
def goR (f : κ → κ) : Nat → List κ → List κ → κ → List κ × List κ × κ
  | 0, V, P, h => (V, P, h)
  | n + 1, V, P, h => if h ∈ V then (V, P, h) else goR f n (V ++ [h]) (P ++ [h]) (f h)
theorem goR_in {f : κ → κ} {n : Nat} {V P : List κ} {h : κ} (e : h ∈ V) : goR f n V P h = (V, P, h) := by
  cases n with
  | zero => rfl
  | succ n => rw [goR, if_pos e]
theorem goR_out {f : κ → κ} {n : Nat} {V P : List κ} {h : κ} (e : h ∉ V) : goR f (n + 1) V P h = goR f n (V ++ [h]) (P ++ [h]) (f h) := by rw [goR, if_neg e]
/-- the word of a way under way: all that was met is there, once; the steps that are left suffice -/
structure Way (ks : List κ) (f : κ → κ) (n : Nat) (V P : List κ) (h : κ) : Prop where
  nd : V.Nodup
  sub : ∀ v ∈ V, v ∈ ks
  hin : h ∈ ks
  suf : ∃ U, V = U ++ P
  left : n + V.length = ks.length
theorem Way.more {ks : List κ} {f : κ → κ} {n : Nat} {V P : List κ} {h : κ} (w : Way ks f n V P h) (hf : ∀ k ∈ ks, f k ∈ ks) (e : h ∉ V) : ∃ m, n = m + 1 ∧ Way ks f m (V ++ [h]) (P ++ [h]) (f h) := by
  have nd : (V ++ [h]).Nodup := List.nodup_append.mpr ⟨w.nd, List.pairwise_singleton _ _, fun x hx y hy z => by
    have : y = h := by simpa using hy
    subst this; subst z; exact e hx⟩
  have sub : ∀ v ∈ V ++ [h], v ∈ ks := fun v hv => by
    rcases List.mem_append.mp hv with q | q
    · exact w.sub v q
    · have : v = h := by simpa using q
      rw [this]; exact w.hin
  have hl := nodup_lenG _ _ nd sub
  rw [List.length_append, List.length_singleton] at hl
  have h2 := w.left
  obtain ⟨U, hU⟩ := w.suf
  exact ⟨n - 1, by omega, nd, sub, hf h w.hin, ⟨U, by rw [hU, List.append_assoc]⟩, by rw [List.length_append, List.length_singleton]; omega⟩
theorem goR_end {ks : List κ} {f : κ → κ} (hf : ∀ k ∈ ks, f k ∈ ks) : ∀ (n : Nat) (V P : List κ) (h : κ), Way ks f n V P h → ∃ m, Way ks f m (goR f n V P h).1 (goR f n V P h).2.1 (goR f n V P h).2.2 ∧ (goR f n V P h).2.2 ∈ (goR f n V P h).1 ∧ ∀ U, V = U ++ P → (goR f n V P h).1 = U ++ (goR f n V P h).2.1
  | n, V, P, h, w => by
    by_cases e : h ∈ V
    · rw [goR_in e]
      exact ⟨n, w, e, fun U hU => hU⟩
    · obtain ⟨m, en, w'⟩ := w.more hf e
      subst en
      rw [goR_out e]
      obtain ⟨m', h1, h2, h3⟩ := goR_end hf m _ _ _ w'
      exact ⟨m', h1, h2, fun U hU => h3 U (by rw [hU, List.append_assoc])⟩
/-- one start: met, rings found -/
def oneR (f : κ → κ) (least : List κ → List κ) (N : Nat) (s : List κ × List (List κ)) (start : κ) : List κ × List (List κ) :=
  let r := goR f (N - s.1.length) s.1 [] start
  (r.1, if r.2.2 ∈ r.2.1 then s.2 ++ [least (r.2.1.drop (r.2.1.idxOf r.2.2))] else s.2)
/-- all of them, in the order in which they are found -/
def allR (f : κ → κ) (least : List κ → List κ) (ks : List κ) (t : Nat) : List κ × List (List κ) := (ks.take t).foldl (oneR f least ks.length) ([], [])
theorem allR_succ {f : κ → κ} {least : List κ → List κ} {ks : List κ} {t : Nat} {k : κ} (h : ks[t]? = some k) : allR f least ks (t + 1) = oneR f least ks.length (allR f least ks t) k := by
  unfold allR
  rw [List.take_add_one, h, List.foldl_append]; rfl
/-- what holds behind each start -/
structure Met (ks : List κ) (s : List κ × List (List κ)) : Prop where
  nd : s.1.Nodup
  sub : ∀ v ∈ s.1, v ∈ ks
theorem Met.way {ks : List κ} {f : κ → κ} {s : List κ × List (List κ)} (h : Met ks s) {k : κ} (hk : k ∈ ks) : Way ks f (ks.length - s.1.length) s.1 [] k :=
  ⟨h.nd, h.sub, hk, ⟨s.1, by rw [List.append_nil]⟩, by have := nodup_lenG _ _ h.nd h.sub; omega⟩
theorem Met.one {ks : List κ} {f : κ → κ} (hf : ∀ k ∈ ks, f k ∈ ks) {least : List κ → List κ} {s : List κ × List (List κ)} (h : Met ks s) {k : κ} (hk : k ∈ ks) : Met ks (oneR f least ks.length s k) := by
  obtain ⟨m, w, _, _⟩ := goR_end hf _ _ _ _ (h.way (f := f) hk)
  exact ⟨w.nd, w.sub⟩
theorem allR_met {ks : List κ} {f : κ → κ} (hf : ∀ k ∈ ks, f k ∈ ks) {least : List κ → List κ} : ∀ t, t ≤ ks.length → Met ks (allR f least ks t)
  | 0, _ => ⟨List.nodup_nil, fun _ h => (nomatch h)⟩
  | t + 1, ht => by
    have e : ks[t]? = some ks[t] := List.getElem?_eq_getElem (by omega)
    rw [allR_succ e]
    exact (allR_met hf t (by omega)).one hf (List.getElem_mem _)
end
end DL

set_option Elab.async false
set_option linter.all false
set_option maxRecDepth 100000
set_option maxHeartbeats 4000000
namespace DL
open PySem PySem.Spec L2
open PyProof.Rows hiding St
/-! ## dict comprehensions with tuple keys -/
theorem d_dictSetT {X : Cx} {pins : List (Addr × Obj)} {σ : L2.St} {H : Hp} {s : Shared} {E : Value → Shared → Prop} {D b : Addr} {kvs : List (List Key × V)} {k : List Key} {v : V} {u r : Value} {Q : Unit → Shared → Prop} (hu : X.A.units + 64 < cLine) (I : L2.Inv X pins σ H s) (eb : H b = some (.tup (k.map kV))) (hD : H D = some (.dT kvs)) (hz : kvs.length < sizeLine)
    (ry : RelV (.ref b) u) (rv : RelV v r) (h : ∀ s', L2.Inv X pins σ (upd H D (.dT (putK kvs k v))) s' → Q () s') : wpAny (model X.prog X.w) X.A (dictSet D u r) Q E s := by
  cases (show u = Value.ref b from ry)
  obtain ⟨z, hd, xs, rel, dd⟩ := dt_of I.hok hD
  have hzv : xs.length ≤ sizeLine := by rw [← Paired.length rel]; exact z
  have hl : (putK kvs k v).length ≤ sizeLine := by have := length_putK kvs k v; omega
  refine wpAny_dictSet_heap (hsz := hzv) (show X.A.units < cLine by omega) (key_of I.hok eb) dd fun h' dd' hs => h _ ?_
  obtain ⟨q, es, ep, hq, h2, h3, h4, _, h5⟩ := dd'
  refine d_write I (by rw [hD]; exact True.intro) hs ⟨q, hq⟩ ⟨hl, hd, _, (rel.put k eb rv).keeps fun c ys ec => ?_, q, es, ep, hq, h2, h3, h4, h5⟩
  rw [upd_ne (ne_of ec hD (fun z => nomatch z))]
  exact ec
section
variable {X : Cx}
def tDcT (wi : TI) (g : TG) (tt : TT) (tk tv : TE) (vs : List Nat) : TE := fun σ H Q => wi σ H fun J H1 => ∀ D, H1 D = none → ∃ W : Nat → Nat → Hp → Prop, (∃ m, W 0 m (upd H1 D (.dT []))) ∧ ∀ i m H, W i m H →
  (J.stop i H ∧ Q (.ref D) H) ∨ (J.go i H ∧ ∃ Nx : Hp → Prop, (∀ H', Nx H' → ∃ m', m' < m ∧ W (i + 1) m' H') ∧ ∀ x H', J.yld i H x H' → g x (wipe σ vs) H' fun σ2 H2 => wipe σ2 vs = wipe σ vs ∧ tt σ2 H2 fun b H3 =>
    if b = true then tk σ2 H3 fun y H4 => tv σ2 H4 fun z H5 => ∃ kvs k b, y = .ref b ∧ H5 b = some (.tup (k.map kV)) ∧ H5 D = some (.dT kvs) ∧ kvs.length < sizeLine ∧ Nx (upd H5 D (.dT (putK kvs k z))) else Nx H3)
theorem dcT_core {pins : List (Addr × Obj)} {s : Shared} {σ : L2.St} {H : Hp} {Q : VK} {kx vx tg iter : Expr} {ifs : List Expr} {scope : Scope} {own : List (Str × Nat)} {pos pos' : Pos} {wi : TI} {g : TG} {tt : TT} {tk tv : TE} {use : Option (Value → Sem Unit)} {Qf : Value → Shared → Prop}
    (hu : X.A.units + 64 < cLine) (hc : X.calm = true) (hN : X.N.Nodup) (I : L2.Inv X pins σ H s) (hi : PI X tg iter wi) (ok : BlkOk X.N X.env.scope scope own)
    (hg : ∀ (s : Shared) (H : Hp) (C : Addr) (cl : List (Str × Addr)) (fp : List Addr), PG (X.blk s H scope (compEnvC scope cl C X.env) fp) tg g) (ht : ∀ (s : Shared) (H : Hp) (C : Addr) (cl : List (Str × Addr)) (fp : List Addr), PTs (X.blk s H scope (compEnvC scope cl C X.env) fp) ifs tt)
    (hk : ∀ (s : Shared) (H : Hp) (C : Addr) (cl : List (Str × Addr)) (fp : List Addr), PE (X.blk s H scope (compEnvC scope cl C X.env) fp) kx tk)
    (he : ∀ (s : Shared) (H : Hp) (C : Addr) (cl : List (Str × Addr)) (fp : List Addr), PE (X.blk s H scope (compEnvC scope cl C X.env) fp) vx tv) (hs : ∀ x, foldedSetIterable iter X.env x = pure x)
    (h : tDcT wi g tt tk tv (own.map (·.2)) σ H Q)
    (hRR : ∀ D C s' m H', L2.Inv X pins σ H' s' → Q (.ref D) H' → s'.heap.Ns C m → FpOk X pins H' C → compPost (model X.prog X.w) X.A X.xe use Qf (.ref D) C (.ok .next) s') :
    wpAny (model X.prog X.w) X.A (comprehension (.DictComp kx vx [⟨tg, iter, ifs, 0⟩] scope pos) scope X.env pos' newDict false (eval iter X.env) use) Qf X.xe s := by
  have hfree : ∀ y ∈ scope.names, y.2 = .free → ∃ c, X.env.cells.lookup y.1 = some c := fun y hy e => by
    rcases ok.free y hy e with k | k
    · exact I.ok.has _ (.inl k)
    · exact I.ok.has _ (.inr k)
  refine wpAny_comprehension_free (use := use) rfl hs (closure_ok hfree) ok.kind (fun y hy e => by rw [ok.uniq y hy, e])
    (thn (hi.run pins s σ H _ I h) fun xv s1 hx => thn hx fun itv s2 h2 => ?_)
  obtain ⟨it, fp, tn, J, H2, e, I2, T, st2, f2, q⟩ := h2
  subst e
  refine wpAny_newObj_type (newEnv_comp ?_)
  generalize hD : s2.heap.objs.size = D
  have hDn : H2 D = none := I2.hok.fresh (Nat.le_of_eq hD)
  obtain ⟨W, ⟨m0, w0⟩, turn⟩ := q D hDn
  -- the new list
  generalize hs3 : ({ s2 with heap := s2.heap.push { cls := .type "dict", data := .dict #[] } } : Shared) = s3
  have I3 : L2.Inv X pins σ (upd H2 D (.dT [])) s3 := by
    rw [← hs3]
    refine I2.laid (t' := s2.toks) (fun b o e => Heap.get?_push_of_some _ e) (Nat.le_of_eq hD) ?_
    rw [← hD]
    exact dt_empty s2.heap I2.big
  have h3 : s3.heap = s2.heap.push { cls := .type "dict", data := .dict #[] } := by rw [← hs3]
  have sz : ∀ b ∈ fp, b < s2.heap.objs.size := fun b hb => by
    obtain ⟨o, e, _⟩ := T.obj _ _ st2 b hb
    exact Heap.lt_size e
  have f3 : ∀ b ∈ fp, FpOk X pins (upd H2 D (.dT [])) b ∧ b < s3.heap.objs.size := fun b hb => by
    have hlt := sz b hb
    refine ⟨⟨?_, (f2 b hb).2⟩, by rw [h3, Heap.size_push]; exact Nat.lt_succ_of_lt hlt⟩
    rw [upd_ne (by rw [← hD]; exact Nat.ne_of_lt hlt)]
    exact (f2 b hb).1
  have st3 : tn 0 s3.heap := T.keep _ _ _ st2 fun b _ o e => by rw [h3]; exact Heap.get?_push_of_some _ e
  have I4 := block_start I3 ok hN f3
  have pg := hg s3 (upd H2 D (.dT [])) s3.heap.objs.size (cellsFrom (s3.heap.objs.size + 1) scope.names (cloFrom X.env.cells scope.names [])) fp
  have pt := ht s3 (upd H2 D (.dT [])) s3.heap.objs.size (cellsFrom (s3.heap.objs.size + 1) scope.names (cloFrom X.env.cells scope.names [])) fp
  have pk := hk s3 (upd H2 D (.dT [])) s3.heap.objs.size (cellsFrom (s3.heap.objs.size + 1) scope.names (cloFrom X.env.cells scope.names [])) fp
  have pe := he s3 (upd H2 D (.dT [])) s3.heap.objs.size (cellsFrom (s3.heap.objs.size + 1) scope.names (cloFrom X.env.cells scope.names [])) fp
  show codeAny _ _ (.compStart (.DictComp kx vx [⟨tg, iter, ifs, 0⟩] scope pos) 0 (.ref it) (.ref D) (compEnvC scope (cellsFrom (s3.heap.objs.size + 1) scope.names (cloFrom X.env.cells scope.names [])) s3.heap.objs.size X.env)) (compPost (model X.prog X.w) X.A X.xe use Qf (.ref D) s3.heap.objs.size) { s3 with heap := pushCells (s3.heap.push { cls := .type "dict", data := .dict #[] }) scope.names }
  have nfp : ∀ b ∈ fp, (upd H2 D (.dT [])) b = none := fun b hb => (f3 b hb).1.1
  generalize hce : compEnvC scope (cellsFrom (s3.heap.objs.size + 1) scope.names (cloFrom X.env.cells scope.names [])) s3.heap.objs.size X.env = ce at I4 pg pt pk pe ⊢
  have cL : ce.locals = s3.heap.objs.size := by subst hce; rfl
  generalize hH3 : upd H2 D (.dT []) = H3 at I3 I4 pg pt pk pe w0 nfp f3
  generalize hs4 : ({ s3 with heap := pushCells (s3.heap.push { cls := .type "dict", data := .dict #[] }) scope.names } : Shared) = s4 at I4 ⊢
  have st4 : tn 0 s4.heap := T.keep _ _ _ st3 fun b _ o e => by rw [← hs4]; exact pushCells_keeps _ _ _ _ (Heap.get?_push_of_some _ e)
  have stat : ∀ {σ' : St} {H' : Hp} {s' : Shared}, L2.Inv (X.blk s3 H3 scope ce fp) [] σ' H' s' → (∀ b ∈ fp, H' b = none) → ∀ b ∈ fp, FpOk (X.blk s3 H3 scope ce fp) [] H' b := fun {σ' H' s'} I' hn b hb =>
    ⟨hn b hb, (I'.ok.exf b hb).1, I'.ok.exfs b hb, .inl hb, fun x c e => (I'.ok.exf b hb).2 x c e, fun p hp => absurd (show p ∈ ([] : List (Addr × Obj)) ++ [] from hp) (by simp)⟩
  have loop : codeAny (model X.prog X.w) X.A (.compLoop (.DictComp kx vx [⟨tg, iter, ifs, 0⟩] scope pos) 0 (.ref it) (.ref D) ce) (compPost (model X.prog X.w) X.A X.xe use Qf (.ref D) s3.heap.objs.size) s4 := by
    refine compLoop_anyD (fun n s' => ∃ i H', L2.Inv (X.blk s3 H3 scope ce fp) [] (wipe σ (own.map (·.2))) H' s' ∧ tn i s'.heap ∧ (∀ b ∈ fp, H' b = none) ∧ W i n H') ?_ m0 ⟨0, H3, I4, st4, nfp, w0⟩
    rintro n s5 ⟨i, H5, I5, st5, n5, w5⟩
    rcases turn i n H5 w5 with ⟨stop, qq⟩ | ⟨go, Nx, hNx, step⟩
    · have td := T.done (X.blk s3 H3 scope ce fp) rfl rfl rfl hc i [] s5 _ H5 (fun _ _ => False) I5 (stat I5 n5) st5 stop
      refine thnF td fun r s6 ⟨hr, I6⟩ => ?_
      subst hr
      -- back in the def's context
      have I7 : L2.Inv X pins σ H5 s6 := I3.call' (ch := fp) I6.os I6.base I6.hok I6.bare fun b hb => ⟨(f3 b hb).1.2.2.2.1, (f3 b hb).1.2.1, (f3 b hb).1.2.2.2.2.1, (f3 b hb).1.2.2.2.2.2⟩
      have nC : H5 s3.heap.objs.size = none := by
        have z : H5 ce.locals = none := I6.free
        rw [cL] at z
        exact z
      obtain ⟨m, hn, _⟩ := I6.loc
      have hn : s6.heap.Ns ce.locals m := hn
      rw [cL] at hn
      exact hRR D s3.heap.objs.size s6 m H5 I7 qq hn (I3.fpOk (Nat.le_refl _) nC)
    · have ti := T.item (X.blk s3 H3 scope ce fp) rfl rfl rfl hc i [] s5 _ H5 (fun _ _ => False) I5 (stat I5 n5) st5 go
      refine thnF ti fun r s6 ⟨u, hr, h6⟩ => ?_
      subst hr
      refine thnF h6 fun _ s7 ⟨x, H7, I7, r7, y7, st7, n7⟩ => ?_
      have I7' := I7.pinned (stat I7 n7) (T.obj _ _ st7)
      refine thnF (pg.run _ s7 _ H7 x u _ I7' r7 (step x H7 y7)) fun _ s8 ⟨σ8, H8, I8, hw8, q8⟩ => ?_
      refine thnF (pt.run _ s8 σ8 H8 _ I8 q8) fun b s9 ⟨H9, I9, q9⟩ => ?_
      -- the turn's end
      have fin : ∀ {s' : Shared} {H' : Hp}, L2.Inv (X.blk s3 H3 scope ce fp) ([] ++ pinsAt fp s7.heap) σ8 H' s' → Nx H' → ∃ m, m < n ∧ ∃ i H', L2.Inv (X.blk s3 H3 scope ce fp) [] (wipe σ (own.map (·.2))) H' s' ∧ tn i s'.heap ∧ (∀ b ∈ fp, H' b = none) ∧ W i m H' := fun {s' H'} I' nx => by
        obtain ⟨m', hm, w'⟩ := hNx H' nx
        have pin' : ∀ b ∈ fp, ∀ o, s7.heap.get? b = some o → s'.heap.get? b = some o ∧ H' b = none := fun b hb o e =>
          let z := I'.pin (b, o) (List.mem_append_right _ (List.mem_append_right _ (mem_pinsAt hb e)))
          ⟨z.1, z.2.1⟩
        have hl : (wipe σ (own.map (·.2))).length = σ8.length := by rw [← hw8, wipe_length]
        refine ⟨m', hm, i + 1, H', (I'.unpinned (pins := [])).weak hl (fun j v e => ?_), T.keep _ _ _ st7 fun b hb o e => (pin' b hb o e).1, fun b hb => ?_, w'⟩
        · rw [← hw8] at e
          exact (wipe_some e).1
        · obtain ⟨o, e, _⟩ := T.obj _ _ st7 b hb
          exact (pin' b hb o e).2
      cases b with
      | false =>
        simp only [Bool.false_eq_true, if_false] at q9 ⊢
        exact fin I9 q9
      | true =>
        simp only [if_true] at q9 ⊢
        refine thnF (pk.run _ s9 σ8 H9 _ I9 q9) fun z s10 ⟨yk, H10, I10, r10, q10⟩ => ?_
        refine thnF (pe.run _ s10 σ8 H10 _ I10 q10) fun z2 s11 ⟨yv, H11, I11, r11, kvs, k, bb, ek, hbb, hD11, hz11, nx⟩ => ?_
        subst ek
        exact d_dictSetT (X := X.blk s3 H3 scope ce fp) hu I11 hbb hD11 hz11 r10 r11 fun s12 I12 => fin I12 nx
  exact codeAny_compStart_dict loop (T.self X.A 0 _ _ _ st4 loop)
/-- as a value -/
theorem pe_dcT {kx vx tg iter : Expr} {ifs : List Expr} {scope : Scope} {own : List (Str × Nat)} {pos : Pos} {wi : TI} {g : TG} {tt : TT} {tk tv : TE} (hu : X.A.units + 64 < cLine) (hc : X.calm = true) (hN : X.N.Nodup) (hi : PI X tg iter wi) (ok : BlkOk X.N X.env.scope scope own)
    (hg : ∀ (s : Shared) (H : Hp) (C : Addr) (cl : List (Str × Addr)) (fp : List Addr), PG (X.blk s H scope (compEnvC scope cl C X.env) fp) tg g) (ht : ∀ (s : Shared) (H : Hp) (C : Addr) (cl : List (Str × Addr)) (fp : List Addr), PTs (X.blk s H scope (compEnvC scope cl C X.env) fp) ifs tt)
    (hk : ∀ (s : Shared) (H : Hp) (C : Addr) (cl : List (Str × Addr)) (fp : List Addr), PE (X.blk s H scope (compEnvC scope cl C X.env) fp) kx tk)
    (he : ∀ (s : Shared) (H : Hp) (C : Addr) (cl : List (Str × Addr)) (fp : List Addr), PE (X.blk s H scope (compEnvC scope cl C X.env) fp) vx tv) (hs : ∀ x, foldedSetIterable iter X.env x = pure x := by intro _; rfl) :
    PE X (.DictComp kx vx [⟨tg, iter, ifs, 0⟩] scope pos) (tDcT wi g tt tk tv (own.map (·.2))) := by
  refine ⟨fun pins s σ H Q I h => ?_⟩
  rw [arm_eval_DictComp]
  refine dcT_core hu hc hN I hi ok hg ht hk he hs h fun D C s' m H' I' q hn f => ⟨m, hn, fun h'' sb => ?_⟩
  obtain ⟨f0, f1, f2, f3, f4, f5⟩ := f
  exact ⟨.ref D, H', I'.turned (t' := s'.toks) (fun b o hb e => (sb.2 b hb).trans e) f0 f1 f3 f4 f5, rfl, q⟩
end
end DL

set_option Elab.async false
set_option linter.all false
set_option maxRecDepth 100000
set_option maxHeartbeats 4000000
namespace DL
open PySem PySem.Spec L2
section
variable {X : Cx} {sl : Sl} {rs : List Res} {Q : EQ} {tg iter kx vx : Expr} {ifs : List Expr} {scope : Scope} {pos : Pos}
/-- {kx: vx for tg in iter if ..}, keys tuples: Pv k tells the things behind k items, the new dict last among them -/
def DcI (X : Cx) (sl : Sl) (tg iter : Expr) (ifs : List Expr) (kx vx : Expr) (scope : Scope) (is : List Nat) (f : Da → Option (List Da)) (own : List (Str × Nat)) (Pv : Nat → List Res → Prop) (rs : List Res) (Q : EQ) : Prop :=
  IW X sl tg iter rs fun ds rs1 => Pv 0 (rs1 ++ [.dT []]) ∧
      (∀ k d rs', ds[k]? = some d → Pv k rs' → ∃ ids, f d = some ids ∧ Blk X scope fun Y => PWs Y (setAll (wipeS sl (own.map (·.2))) (is.zip ids)) ifs rs' fun b rs2 => (b = false → Pv (k + 1) rs2) ∧
        (b = true → Blk X scope fun Y => EW Y (setAll (wipeS sl (own.map (·.2))) (is.zip ids)) kx rs2 fun rk rs3 => ∃ kd kk, rk = .sh (.tup kd) ∧ keyDs kd = some kk ∧
          Blk X scope fun Y => EW Y (setAll (wipeS sl (own.map (·.2))) (is.zip ids)) vx rs3 fun r rs4 => ∃ d kvs, r = .sh d ∧ rs4[rs1.length]? = some (.dT kvs) ∧ kvs.length < 100000 ∧ Pv (k + 1) (rs4.set rs1.length (.dT (putD kvs kk d))))) ∧
      ∀ rs', Pv ds.length rs' → Q (.rf rs1.length) rs'
theorem make_dT0 {K : PySem.W.Frag} {T : Tw} {H : Hp} {p : Addr} (R : RepH K T rs H) (hp : H p = none) : RepH K (T.more p) (rs ++ [.dT []]) (upd H p (.dT [])) :=
  R.make hp ⟨by show (if (if T.n = T.n then p else T.ad T.n) = p then some T.n else _) = _; rw [if_pos rfl, if_pos rfl], [], by show upd H p (.dT []) (if T.n = T.n then p else T.ad T.n) = _; rw [if_pos rfl]; exact upd_same, .nil⟩
theorem dcD {is : List Nat} {f : Da → Option (List Da)} {Pv : Nat → List Res → Prop} {own : List (Str × Nat)} (hsub : ∀ i ∈ is, i ∈ own.map (·.2)) (hg : Blk X scope fun Y => LcG Y tg is f)
    (hi : DcI X sl tg iter ifs kx vx scope is f own Pv rs Q) {T : Tw} {σ : L2.St} {H : Hp} (hR : RepH X.K T rs H) (S : SlOk X.K T sl σ) {Qf : VK} (hq : ∀ T' rs' r v H', T.le T' → RepH X.K T' rs' H' → RpV X.K T' v r → Q r rs' → Qf v H') :
    tDcT (tiS X tg iter) (gB X scope tg) (tB2 X scope ifs) (eB X scope kx) (eB X scope vx) (own.map (·.2)) σ H Qf := by
  refine (IW.go hi T σ H hR S).mono ?_
  rintro J H1 ⟨T1, rs1, ds, l, R1, it, p0, ps, pend⟩ D hD
  have SW1 := (S.le l).wipe (own.map (·.2))
  refine ⟨fun i m H => m = ds.length - i ∧ i ≤ ds.length ∧ ∃ T' rs', (T1.more D).le T' ∧ RepH X.K T' rs' H ∧ Pv i rs', ⟨ds.length, by simp, Nat.zero_le _, _, _, .refl _, make_dT0 R1 hD, p0⟩, ?_⟩
  rintro i m H2 ⟨rfl, hi, T', rs', l', R', p⟩
  have l1' : T1.le T' := (T1.le_more D).trans l'
  have adD : T'.ad rs1.length = D := by
    rw [l'.ad rs1.length (by rw [R1.n]; exact Nat.lt_succ_self _)]
    show (if rs1.length = T1.n then D else _) = D
    rw [if_pos R1.n]
  by_cases hlt : i < ds.length
  · refine .inr ⟨it.go i T' rs' H2 hlt l1' R', fun H' => ∃ T2 rs2, (T1.more D).le T2 ∧ RepH X.K T2 rs2 H' ∧ Pv (i + 1) rs2, fun H' ⟨T2, rs2, a, b, c⟩ => ⟨ds.length - (i + 1), by omega, rfl, hlt, T2, rs2, a, b, c⟩, fun x H' y => ?_⟩
    obtain ⟨T2, l2, R2, rp⟩ := it.yld i _ T' rs' H2 x H' (List.getElem?_eq_getElem hlt) l1' R' y
    obtain ⟨ids, hf, hb⟩ := ps i _ rs' (List.getElem?_eq_getElem hlt) p
    intro s0 H0 C0 cl0 fp0
    refine (hg s0 H0 C0 cl0 fp0).run T2 rs' _ H' x _ ids _ R2 rp hf fun vs rps hvl => ⟨?_, fun s1 H1 C1 cl1 fp1 => ?_⟩
    · have e0 : wipe (setAllV (wipe σ (own.map (·.2))) (is.zip vs)) (own.map (·.2)) = wipe σ (own.map (·.2)) := by
        refine wipe_same ?_ fun i hi => ?_
        · rw [setAllV_len, wipe_length]
        · rw [setAllV_out, wipe_out' hi]
          intro z
          refine hi (hsub i ?_)
          have : (is.zip vs).map (·.1) = is := by rw [List.map_fst_zip (by omega)]
          rw [this] at z; exact z
      exact e0
    · have S2 := setAll_ok (paired_zip rps hvl) ((SW1.le l1').le l2)
      refine ptsS.mono ((hb s1 H1 C1 cl1 fp1).go T2 _ H' R2 S2) fun b H3 ⟨T3, rs3, l3, R3, q1, q2⟩ => ?_
      cases b with
      | false => exact iteF ⟨T3, rs3, (l'.trans l2).trans l3, R3, q1 rfl⟩
      | true =>
        refine iteT fun s2 H2 C2 cl2 fp2 => teS.mono ((q2 rfl s2 H2 C2 cl2 fp2).go T3 _ H3 R3 (S2.le l3)) fun y H4 ⟨T4, rs4, rk, l4, R4, p4, kd, kk, e1, hk, qv⟩ => ?_
        subst e1
        refine fun s3 H3' C3 cl3 fp3 => teS.mono ((qv s3 H3' C3 cl3 fp3).go T4 _ H4 R4 ((S2.le l3).le l4)) fun z H5 ⟨T5, rs5, r, l5, R5, p5, d, kvs, e1, e2, e3, q⟩ => ?_
        subst e1
        obtain ⟨pa, e5, hp⟩ := key_at R5 (p4.le l5) hk
        obtain ⟨h1, ws, h2, h3⟩ := R5.rs _ _ e2
        have ad5 : T5.ad rs1.length = D := by
          rw [(l2.trans (l3.trans (l4.trans l5))).ad rs1.length (Nat.lt_of_lt_of_le (by rw [R1.n]; exact Nat.lt_succ_self _) l'.n)]; exact adD
        rw [ad5] at h1 h2
        have hkl : rs1.length < rs5.length := (List.getElem?_eq_some_iff.mp e2).1
        refine ⟨ws, kk, pa, e5, hp, h2, by rw [h3.len]; exact Nat.lt_of_lt_of_le e3 (by decide), T5, _, (((l'.trans l2).trans l3).trans l4).trans l5, R5.write h1 ?_ hkl, q⟩
        exact ⟨by rw [ad5]; exact h1, _, by rw [ad5]; exact upd_same, h3.put p5⟩
  · have e : i = ds.length := by omega
    subst e
    exact .inl ⟨it.stop T' rs' H2 l1' R', hq T' rs' (.rf rs1.length) _ _ (l.trans l1') R' ⟨Nat.lt_of_lt_of_le (by rw [R1.n]; exact Nat.lt_succ_self _) l'.n, by rw [adD]⟩ (pend rs' p)⟩
theorem ew_dcT {is : List Nat} {f : Da → Option (List Da)} (hu : Un X) (Pv : Nat → List Res → Prop) (own : List (Str × Nat)) (hg : Blk X scope fun Y => LcG Y tg is f)
    (hi : DcI X sl tg iter ifs kx vx scope is f own Pv rs Q) (hN : X.N.Nodup) (ok : BlkOk X.N X.env.scope scope own := by exact (blk_of (by assumption) (by rfl) (by rfl) (by decide +kernel))) (hsub : ∀ i ∈ is, i ∈ own.map (·.2) := by decide) (hc : X.calm = true := by rfl) (hs : ∀ x, foldedSetIterable iter X.env x = pure x := by intro _; rfl) : EW X sl (.DictComp kx vx [⟨tg, iter, ifs, 0⟩] scope pos) rs Q :=
  ew_of (pe_dcT (g := gB X scope tg) (tt := tB2 X scope ifs) (tk := eB X scope kx) (tv := eB X scope vx) hu hc hN pi_S ok (fun s H C cl fp => ⟨fun pins s' σ H' v u Q I r h => h s H C cl fp pins s' u I r⟩) (fun s H C cl fp => ⟨fun pins s' σ H' Q I h => h s H C cl fp pins s' I⟩) (fun s H C cl fp => ⟨fun pins s' σ H' Q I h => h s H C cl fp pins s' I⟩) (fun s H C cl fp => ⟨fun pins s' σ H' Q I h => h s H C cl fp pins s' I⟩) hs)
    fun T σ H hR S => dcD hsub hg hi hR S fun T' rs' r v H' l R' p q => ⟨T', rs', r, l, R', p, q⟩
end
end DL

set_option Elab.async false
set_option linter.all false
set_option maxRecDepth 100000
set_option maxHeartbeats 2000000
namespace DL
open PySem PySem.Spec L2
section
variable {X : Cx} {sl : Sl} {rs : List Res} {Q : EQ} {tg iter tg1 iter1 elt : Expr} {ifs ifs1 : List Expr} {scope : Scope} {pos : Pos}
/-- [elt for tg in iter for tg1 in iter1] -/
def LcI2 (X : Cx) (sl : Sl) (tg iter : Expr) (ifs : List Expr) (tg1 iter1 : Expr) (ifs1 : List Expr) (elt : Expr) (scope : Scope) (is : List Nat) (f : Da → Option (List Da)) (is1 : List Nat) (f1 : Da → Option (List Da)) (own : List (Str × Nat)) (vs1 : List Nat) (Pv : Nat → List Res → Prop) (rs : List Res) (Q : EQ) : Prop :=
  IW X sl tg iter rs fun ds rs1 => Pv 0 (rs1 ++ [.lst []]) ∧
      (∀ k d rs', ds[k]? = some d → Pv k rs' → ∃ ids, f d = some ids ∧ Blk X scope fun Y => PWs Y (setAll (wipeS sl (own.map (·.2))) (is.zip ids)) ifs rs' fun b rs2 => (b = false → Pv (k + 1) rs2) ∧
        (b = true → Blk X scope fun Y => IW Y (setAll (wipeS sl (own.map (·.2))) (is.zip ids)) tg1 iter1 rs2 fun ds1 rs3 => ∃ Pw : Nat → List Res → Prop, Pw 0 rs3 ∧
          (∀ j d1 rs4, ds1[j]? = some d1 → Pw j rs4 → ∃ ids1, f1 d1 = some ids1 ∧ Blk X scope fun Y => PWs Y (setAll (wipeS (setAll (wipeS sl (own.map (·.2))) (is.zip ids)) vs1) (is1.zip ids1)) ifs1 rs4 fun b rs5 => (b = false → Pw (j + 1) rs5) ∧
            (b = true → Blk X scope fun Y => EW Y (setAll (wipeS (setAll (wipeS sl (own.map (·.2))) (is.zip ids)) vs1) (is1.zip ids1)) elt rs5 fun r rs6 => ∃ d acc, r = .sh d ∧ rs6[rs1.length]? = some (.lst acc) ∧ acc.length < 100000 ∧ Pw (j + 1) (rs6.set rs1.length (.lst (acc ++ [d]))))) ∧
          ∀ rs', Pw ds1.length rs' → Pv (k + 1) rs')) ∧
      ∀ rs', Pv ds.length rs' → Q (.rf rs1.length) rs'
def tiB (X : Cx) (scope : Scope) (tg iter : Expr) : TI := fun σ H Q => ∀ (s : Shared) (H0 : Hp) (C : Addr) (cl : List (Str × Addr)) (fp : List Addr), tiS (X.blk s H0 scope (compEnvC scope cl C X.env) fp) tg iter σ H Q
theorem zip_same {σ : L2.St} {vs is : List Nat} {us : List V} (hsub : ∀ i ∈ is, i ∈ vs) (hl : us.length = is.length) : wipe (setAllV (wipe σ vs) (is.zip us)) vs = wipe σ vs := by
  refine wipe_same ?_ fun i hi => ?_
  · rw [setAllV_len, wipe_length]
  · rw [setAllV_out, wipe_out' hi]
    intro z
    refine hi (hsub i ?_)
    have : (is.zip us).map (·.1) = is := by rw [List.map_fst_zip (by omega)]
    rw [this] at z; exact z
theorem lcD2 {is is1 : List Nat} {f f1 : Da → Option (List Da)} {Pv : Nat → List Res → Prop} {own : List (Str × Nat)} {vs1 : List Nat} (hsub : ∀ i ∈ is, i ∈ own.map (·.2)) (hsub1 : ∀ i ∈ is1, i ∈ vs1) (hg : Blk X scope fun Y => LcG Y tg is f) (hg1 : Blk X scope fun Y => LcG Y tg1 is1 f1)
    (hi : LcI2 X sl tg iter ifs tg1 iter1 ifs1 elt scope is f is1 f1 own vs1 Pv rs Q) {T : Tw} {σ : L2.St} {H : Hp} (hR : RepH X.K T rs H) (S : SlOk X.K T sl σ) {Qf : VK} (hq : ∀ T' rs' r v H', T.le T' → RepH X.K T' rs' H' → RpV X.K T' v r → Q r rs' → Qf v H') :
    tLc2 (tiS X tg iter) (gB X scope tg) (tB2 X scope ifs) (tiB X scope tg1 iter1) (gB X scope tg1) (tB2 X scope ifs1) (eB X scope elt) (own.map (·.2)) vs1 σ H Qf := by
  refine (IW.go hi T σ H hR S).mono ?_
  rintro J H1 ⟨T1, rs1, ds, l, R1, it, p0, ps, pend⟩ D hD
  have SW1 := (S.le l).wipe (own.map (·.2))
  refine ⟨fun i m H => m = ds.length - i ∧ i ≤ ds.length ∧ ∃ T' rs', (T1.more D).le T' ∧ RepH X.K T' rs' H ∧ Pv i rs', ⟨ds.length, by simp, Nat.zero_le _, _, _, .refl _, make_lst R1 hD .nil, p0⟩, ?_⟩
  rintro i m H2 ⟨rfl, hi, T', rs', l', R', p⟩
  have l1' : T1.le T' := (T1.le_more D).trans l'
  have adD : T'.ad rs1.length = D := by
    rw [l'.ad rs1.length (by rw [R1.n]; exact Nat.lt_succ_self _)]
    show (if rs1.length = T1.n then D else _) = D
    rw [if_pos R1.n]
  by_cases hlt : i < ds.length
  · refine .inr ⟨it.go i T' rs' H2 hlt l1' R', fun H' => ∃ T2 rs2, (T1.more D).le T2 ∧ RepH X.K T2 rs2 H' ∧ Pv (i + 1) rs2, fun H' ⟨T2, rs2, a, b, c⟩ => ⟨ds.length - (i + 1), by omega, rfl, hlt, T2, rs2, a, b, c⟩, fun x H' y => ?_⟩
    obtain ⟨T2, l2, R2, rp⟩ := it.yld i _ T' rs' H2 x H' (List.getElem?_eq_getElem hlt) l1' R' y
    obtain ⟨ids, hf, hb⟩ := ps i _ rs' (List.getElem?_eq_getElem hlt) p
    intro s0 H0 C0 cl0 fp0
    refine (hg s0 H0 C0 cl0 fp0).run T2 rs' _ H' x _ ids _ R2 rp hf fun vs rps hvl => ⟨zip_same hsub hvl, fun s1 H1 C1 cl1 fp1 => ?_⟩
    have S2 := setAll_ok (paired_zip rps hvl) ((SW1.le l1').le l2)
    refine ptsS.mono ((hb s1 H1 C1 cl1 fp1).go T2 _ H' R2 S2) fun b H3 ⟨T3, rs3, l3, R3, q1, q2⟩ => ?_
    cases b with
    | false => exact iteF ⟨T3, rs3, (l'.trans l2).trans l3, R3, q1 rfl⟩
    | true =>
      refine iteT fun s2 H2' C2 cl2 fp2 => ((q2 rfl s2 H2' C2 cl2 fp2).go T3 _ H3 R3 (S2.le l3)).mono fun J1 H4 ⟨T4, rs4, ds1, l4, R4, it1, Pw, pw0, pws, pwe⟩ => ?_
      have ll4 : (T1.more D).le T4 := ((l'.trans l2).trans l3).trans l4
      refine ⟨fun j k H => k = ds1.length - j ∧ j ≤ ds1.length ∧ ∃ T' rs', T4.le T' ∧ RepH X.K T' rs' H ∧ Pw j rs', ⟨ds1.length, by simp, Nat.zero_le _, T4, rs4, .refl _, R4, pw0⟩, ?_⟩
      rintro j k H5 ⟨rfl, hj, T5, rs5, l5, R5, p5⟩
      by_cases hjt : j < ds1.length
      · refine .inr ⟨it1.go j T5 rs5 H5 hjt l5 R5, fun H' => ∃ T6 rs6, T4.le T6 ∧ RepH X.K T6 rs6 H' ∧ Pw (j + 1) rs6, fun H' ⟨T6, rs6, a, b, c⟩ => ⟨ds1.length - (j + 1), by omega, rfl, hjt, T6, rs6, a, b, c⟩, fun x1 H6 y1 => ?_⟩
        obtain ⟨T6, l6, R6, rp6⟩ := it1.yld j _ T5 rs5 H5 x1 H6 (List.getElem?_eq_getElem hjt) l5 R5 y1
        obtain ⟨ids1, hf1, hb1⟩ := pws j _ rs5 (List.getElem?_eq_getElem hjt) p5
        intro s3 H3' C3 cl3 fp3
        have S3 := ((((S2.le l3).le l4).le l5).le l6).wipe vs1
        refine (hg1 s3 H3' C3 cl3 fp3).run T6 rs5 _ H6 x1 _ ids1 _ R6 rp6 hf1 fun vs' rps' hvl' => ⟨zip_same hsub1 hvl', fun s4 H4' C4 cl4 fp4 => ?_⟩
        have S4 := setAll_ok (paired_zip rps' hvl') S3
        refine ptsS.mono ((hb1 s4 H4' C4 cl4 fp4).go T6 _ H6 R6 S4) fun b H7 ⟨T7, rs7, l7, R7, q7, q8⟩ => ?_
        cases b with
        | false => exact iteF ⟨T7, rs7, (l5.trans l6).trans l7, R7, q7 rfl⟩
        | true =>
          refine iteT fun s5 H5' C5 cl5 fp5 => teS.mono ((q8 rfl s5 H5' C5 cl5 fp5).go T7 _ H7 R7 (S4.le l7)) fun y H8 ⟨T8, rs8, r, l8, R8, p8, d, acc, e1, e2, e3, q⟩ => ?_
          subst e1
          obtain ⟨h1, ws, h2, h3⟩ := R8.rs _ _ e2
          have l48 := ((l5.trans l6).trans l7).trans l8
          have ad8 : T8.ad rs1.length = D := by
            have := (ll4.trans l48).ad rs1.length (by rw [R1.n]; exact Nat.lt_succ_self _)
            rw [this]
            show (if rs1.length = T1.n then D else _) = D
            rw [if_pos R1.n]
          rw [ad8] at h1 h2
          have hk : rs1.length < rs8.length := (List.getElem?_eq_some_iff.mp e2).1
          refine ⟨ws, h2, by rw [h3.len]; exact Nat.lt_of_lt_of_le e3 (by decide), T8, _, l48, R8.write h1 ?_ hk, q⟩
          exact ⟨by rw [ad8]; exact h1, ws ++ [y], by rw [ad8]; exact upd_same, h3.app (.one p8)⟩
      · have e : j = ds1.length := by omega
        subst e
        exact .inl ⟨it1.stop T5 rs5 H5 l5 R5, T5, rs5, ll4.trans l5, R5, pwe rs5 p5⟩
  · have e : i = ds.length := by omega
    subst e
    exact .inl ⟨it.stop T' rs' H2 l1' R', hq T' rs' (.rf rs1.length) _ _ (l.trans l1') R' ⟨Nat.lt_of_lt_of_le (by rw [R1.n]; exact Nat.lt_succ_self _) l'.n, by rw [adD]⟩ (pend rs' p)⟩
theorem ew_lc2 {is is1 : List Nat} {f f1 : Da → Option (List Da)} (Pv : Nat → List Res → Prop) (own : List (Str × Nat)) (vs1 : List Nat) (hg : Blk X scope fun Y => LcG Y tg is f) (hg1 : Blk X scope fun Y => LcG Y tg1 is1 f1)
    (hi : LcI2 X sl tg iter ifs tg1 iter1 ifs1 elt scope is f is1 f1 own vs1 Pv rs Q) (hN : X.N.Nodup) (ok : BlkOk X.N X.env.scope scope own := by exact (blk_of (by assumption) (by rfl) (by rfl) (by decide +kernel))) (hsub : ∀ i ∈ is, i ∈ own.map (·.2) := by decide) (hsub1 : ∀ i ∈ is1, i ∈ vs1 := by decide) (hv : ∀ i ∈ vs1, i ∈ own.map (·.2) := by decide) (hc : X.calm = true := by rfl) (hs : ∀ x, foldedSetIterable iter X.env x = pure x := by intro _; rfl) (hs1 : ∀ env x, foldedSetIterable iter1 env x = pure x := by intro _ _; rfl) : EW X sl (.ListComp elt [⟨tg, iter, ifs, 0⟩, ⟨tg1, iter1, ifs1, 0⟩] scope pos) rs Q :=
  ew_of (pe_lc2 (g := gB X scope tg) (tt := tB2 X scope ifs) (wi1 := tiB X scope tg1 iter1) (g1 := gB X scope tg1) (tt1 := tB2 X scope ifs1) (te := eB X scope elt) hc hN pi_S ok hv (fun s H C cl fp => ⟨fun pins s' σ H' v u Q I r h => h s H C cl fp pins s' u I r⟩) (fun s H C cl fp => ⟨fun pins s' σ H' Q I h => h s H C cl fp pins s' I⟩) (fun s H C cl fp => ⟨fun pins s' σ H' Q I h => h s H C cl fp pins s' I⟩) (fun s H C cl fp => ⟨fun pins s' σ H' v u Q I r h => h s H C cl fp pins s' u I r⟩) (fun s H C cl fp => ⟨fun pins s' σ H' Q I h => h s H C cl fp pins s' I⟩) (fun s H C cl fp => ⟨fun pins s' σ H' Q I h => h s H C cl fp pins s' I⟩) hs hs1)
    fun T σ H hR S => lcD2 hsub hsub1 hg hg1 hi hR S fun T' rs' r v H' l R' p q => ⟨T', rs', r, l, R', p, q⟩
theorem s_setLc2 (i : Nat) {is is1 : List Nat} {f f1 : Da → Option (List Da)} (Pv : Nat → List Res → Prop) (own : List (Str × Nat)) (vs1 : List Nat) {R : Out} {y : Str} {py spos : Pos} (hg : Blk X scope fun Y => LcG Y tg is f) (hg1 : Blk X scope fun Y => LcG Y tg1 is1 f1)
    (hi : LcI2 X sl tg iter ifs tg1 iter1 ifs1 elt scope is f is1 f1 own vs1 Pv rs fun r rs' => R.nx (sl.set i (some r)) rs') (hN : X.N.Nodup) (hsw : swapsWith (.ListComp elt [⟨tg, iter, ifs, 0⟩, ⟨tg1, iter1, ifs1, 0⟩] scope pos) (some (.Name y py)) spos.line X.env = pure true := by exact (sw_true rfl rfl rfl (by decide +kernel))) (hy : X.N[i]? = some y := by rfl) (hyl : X.env.scope.names.lookup y = some .local := by rfl) (ok : BlkOk X.N X.env.scope scope own := by exact (blk_of (by assumption) (by rfl) (by rfl) (by decide +kernel))) (hsub : ∀ i ∈ is, i ∈ own.map (·.2) := by decide) (hsub1 : ∀ i ∈ is1, i ∈ vs1 := by decide) (hv : ∀ i ∈ vs1, i ∈ own.map (·.2) := by decide) (hc : X.calm = true := by rfl) (hs : ∀ x, foldedSetIterable iter X.env x = pure x := by intro _; rfl) (hs1 : ∀ env x, foldedSetIterable iter1 env x = pure x := by intro _ _; rfl) :
    S1 X sl (.Assign [.Name y py] (.ListComp elt [⟨tg, iter, ifs, 0⟩, ⟨tg1, iter1, ifs1, 0⟩] scope pos) spos) rs R :=
  s1_of (ps_setLc2 (g := gB X scope tg) (tt := tB2 X scope ifs) (wi1 := tiB X scope tg1 iter1) (g1 := gB X scope tg1) (tt1 := tB2 X scope ifs1) (te := eB X scope elt) hc hN hy hyl hsw pi_S ok hv (fun s H C cl fp => ⟨fun pins s' σ H' v u Q I r h => h s H C cl fp pins s' u I r⟩) (fun s H C cl fp => ⟨fun pins s' σ H' Q I h => h s H C cl fp pins s' I⟩) (fun s H C cl fp => ⟨fun pins s' σ H' Q I h => h s H C cl fp pins s' I⟩) (fun s H C cl fp => ⟨fun pins s' σ H' v u Q I r h => h s H C cl fp pins s' u I r⟩) (fun s H C cl fp => ⟨fun pins s' σ H' Q I h => h s H C cl fp pins s' I⟩) (fun s H C cl fp => ⟨fun pins s' σ H' Q I h => h s H C cl fp pins s' I⟩) hs hs1)
    fun T σ H hR S => lcD2 hsub hsub1 hg hg1 hi hR S fun T' rs' r v H' l R' p q => ⟨T', _, rs', l, R', (S.le l).set i p, q⟩
end
end DL

set_option Elab.async false
set_option linter.all false
set_option maxRecDepth 100000
set_option maxHeartbeats 1000000
namespace DL
open PySem PySem.Spec L2
/-! ## rings: what is found comes round, and all comes to it -/
section
variable {κ : Type} [DecidableEq κ]
def itR (f : κ → κ) (x : κ) : Nat → κ
  | 0 => x
  | n + 1 => f (itR f x n)
theorem itR_add (f : κ → κ) (x : κ) (m : Nat) : ∀ n, itR f x (m + n) = itR f (itR f x m) n
  | 0 => rfl
  | n + 1 => by show f (itR f x (m + n)) = f _; rw [itR_add f x m n]
theorem itR_one (f : κ → κ) (x : κ) (n : Nat) : itR f (f x) n = itR f x (n + 1) := by
  rw [Nat.add_comm, itR_add]; rfl
def pathR (f : κ → κ) (x : κ) (n : Nat) : List κ := (List.range n).map (itR f x)
theorem pathR_len (f : κ → κ) (x : κ) (n : Nat) : (pathR f x n).length = n := by unfold pathR; rw [List.length_map, List.length_range]
theorem pathR_get {f : κ → κ} {x : κ} {n i : Nat} (h : i < n) : (pathR f x n)[i]? = some (itR f x i) := by
  unfold pathR; rw [List.getElem?_map, List.getElem?_range h]; rfl
theorem pathR_succ (f : κ → κ) (x : κ) (n : Nat) : pathR f x (n + 1) = pathR f x n ++ [itR f x n] := by
  unfold pathR; rw [List.range_succ, List.map_append]; rfl
theorem pathR_mem {f : κ → κ} {x y : κ} {n : Nat} : y ∈ pathR f x n ↔ ∃ i, i < n ∧ itR f x i = y := by
  unfold pathR
  rw [List.mem_map]
  constructor
  · rintro ⟨i, hi, e⟩; exact ⟨i, List.mem_range.mp hi, e⟩
  · rintro ⟨i, hi, e⟩; exact ⟨i, List.mem_range.mpr hi, e⟩
theorem pathR_drop (f : κ → κ) (x : κ) (n j : Nat) (h : j ≤ n) : (pathR f x n).drop j = pathR f (itR f x j) (n - j) := by
  refine List.ext_getElem? fun i => ?_
  rw [List.getElem?_drop]
  by_cases hi : i < n - j
  · rw [pathR_get hi, pathR_get (show j + i < n by omega), itR_add]
  · rw [List.getElem?_eq_none (by rw [pathR_len]; omega), List.getElem?_eq_none (by rw [pathR_len]; omega)]
/-- it comes round -/
structure Cyc (f : κ → κ) (c : List κ) : Prop where
  pos : 0 < c.length
  nd : c.Nodup
  at_ : ∃ x, c = pathR f x c.length ∧ itR f x c.length = x
theorem Cyc.next {f : κ → κ} {c : List κ} (h : Cyc f c) {v : κ} (hv : v ∈ c) : f v ∈ c := by
  obtain ⟨x, e1, e2⟩ := h.at_
  rw [e1] at hv ⊢
  obtain ⟨i, hi, rfl⟩ := pathR_mem.mp hv
  by_cases q : i + 1 < c.length
  · exact pathR_mem.mpr ⟨i + 1, q, rfl⟩
  · refine pathR_mem.mpr ⟨0, h.pos, ?_⟩
    have : i + 1 = c.length := by omega
    show x = itR f x (i + 1)
    rw [this, e2]
theorem Cyc.nexts {f : κ → κ} {c : List κ} (h : Cyc f c) {v : κ} (hv : v ∈ c) : ∀ n, itR f v n ∈ c
  | 0 => hv
  | n + 1 => h.next (h.nexts hv n)
theorem Cyc.period {f : κ → κ} {c : List κ} (h : Cyc f c) {v : κ} (hv : v ∈ c) : itR f v c.length = v := by
  obtain ⟨x, e1, e2⟩ := h.at_
  rw [e1] at hv
  obtain ⟨i, hi, rfl⟩ := pathR_mem.mp hv
  rw [← itR_add, Nat.add_comm, itR_add, e2]
/-- from any of its things on it is the same ring -/
theorem Cyc.turn {f : κ → κ} {c : List κ} (h : Cyc f c) {j : Nat} (hj : j < c.length) : c.drop j ++ c.take j = pathR f (c[j]) c.length ∧ itR f (c[j]) c.length = c[j] := by
  obtain ⟨x, e1, e2⟩ := h.at_
  have ej : c[j] = itR f x j := by
    have h1 : c[j]? = some (itR f x j) := by rw [e1]; exact pathR_get hj
    rw [List.getElem?_eq_getElem hj] at h1
    exact Option.some.inj h1
  refine ⟨?_, h.period (List.getElem_mem hj)⟩
  rw [ej]
  refine List.ext_getElem? fun i => ?_
  by_cases hi : i < c.length
  · rw [pathR_get hi]
    by_cases q : i < c.length - j
    · rw [List.getElem?_append_left (by rw [List.length_drop]; exact q), List.getElem?_drop, e1, pathR_get (by omega), itR_add]
    · rw [List.getElem?_append_right (by rw [List.length_drop]; omega), List.length_drop, List.getElem?_take_of_lt (by omega), e1, pathR_len, pathR_get (by omega)]
      rw [← itR_add, show j + i = c.length + (i - (c.length - j)) by omega, itR_add, e2]
  · rw [List.getElem?_eq_none (by rw [List.length_append, List.length_drop, List.length_take]; omega), List.getElem?_eq_none (by rw [pathR_len]; omega)]
theorem Cyc.rot {f : κ → κ} {c : List κ} (h : Cyc f c) {j : Nat} (hj : j < c.length) : Cyc f (c.drop j ++ c.take j) := by
  have hl : (c.drop j ++ c.take j).length = c.length := by rw [List.length_append, List.length_drop, List.length_take]; omega
  refine ⟨by rw [hl]; exact h.pos, ?_, c[j], by rw [hl]; exact (h.turn hj).1, by rw [hl]; exact (h.turn hj).2⟩
  have : (c.drop j ++ c.take j).Perm c := List.perm_append_comm.trans (by rw [List.take_append_drop])
  exact this.nodup_iff.mpr h.nd
theorem Cyc.apart {f : κ → κ} {c d : List κ} (h : Cyc f c) (h' : Cyc f d) {v : κ} (hc : v ∈ c) (hd : v ∈ d) : ∀ x ∈ c, x ∈ d := fun x hx => by
  obtain ⟨y, e1, e2⟩ := h.at_
  rw [e1] at hc hx
  obtain ⟨i, hi, rfl⟩ := pathR_mem.mp hc
  obtain ⟨k, hk, rfl⟩ := pathR_mem.mp hx
  -- k comes behind i, a round on
  have := h'.nexts hd (c.length + k - i)
  rw [← itR_add, show i + (c.length + k - i) = c.length + k by omega, itR_add, e2] at this
  exact this
theorem Cyc.least {f : κ → κ} {c : List κ} (h : Cyc f c) {v : κ} (hv : v ∈ c) {n : Nat} (h0 : 0 < n) (e : itR f v n = v) : c.length ≤ n := by
  obtain ⟨x, e1, e2⟩ := h.at_
  refine Nat.le_of_not_lt fun q => ?_
  have hv2 := hv
  rw [e1] at hv2
  obtain ⟨i, hi, rfl⟩ := pathR_mem.mp hv2
  have nd := h.nd
  rw [e1] at nd
  have key : ∀ a b, a < c.length → b < c.length → itR f x a = itR f x b → a = b := fun a b ha hb z => by
    have := (List.getElem?_inj (l := pathR f x c.length) (i := a) (j := b) (by rw [pathR_len]; exact ha) nd).mp (by rw [pathR_get ha, pathR_get hb, z])
    exact this
  rw [← itR_add] at e
  by_cases q2 : i + n < c.length
  · have := key _ _ q2 hi e; omega
  · rw [show i + n = c.length + (i + n - c.length) by omega, itR_add, e2] at e
    have := key _ _ (by omega) hi e; omega
/-! ### what stands behind each start -/
theorem goR_path {f : κ → κ} {x : κ} : ∀ (n : Nat) (V : List κ) (m : Nat), ∃ m', m ≤ m' ∧ (goR f n V (pathR f x m) (itR f x m)).2.1 = pathR f x m' ∧ (goR f n V (pathR f x m) (itR f x m)).2.2 = itR f x m'
  | 0, V, m => ⟨m, Nat.le_refl _, rfl, rfl⟩
  | n + 1, V, m => by
    by_cases e : itR f x m ∈ V
    · rw [goR_in e]; exact ⟨m, Nat.le_refl _, rfl, rfl⟩
    · rw [goR_out e, ← pathR_succ]
      obtain ⟨m', h1, h2, h3⟩ := goR_path n (V ++ [itR f x m]) (m + 1)
      exact ⟨m', by omega, h2, h3⟩
structure Fnd (ks : List κ) (f : κ → κ) (s : List κ × List (List κ)) : Prop where
  met : Met ks s
  clos : ∀ v ∈ s.1, f v ∈ s.1
  cyc : ∀ c ∈ s.2, Cyc f c
  sub : ∀ c ∈ s.2, ∀ v ∈ c, v ∈ s.1
  dj : s.2.Pairwise fun c d => ∀ v ∈ c, v ∉ d
  rch : ∀ v ∈ s.1, ∃ n c, c ∈ s.2 ∧ itR f v n ∈ c
/-- least turns a ring -/
structure Turns (least : List κ → List κ) : Prop where
  at_ : ∀ c, c ≠ [] → ∃ j, j < c.length ∧ least c = c.drop j ++ c.take j
theorem Fnd.start {ks : List κ} {f : κ → κ} : Fnd ks f ([], []) :=
  ⟨⟨List.nodup_nil, fun _ h => (nomatch h)⟩, fun _ h => (nomatch h), fun _ h => (nomatch h), fun _ h => (nomatch h), .nil, fun _ h => (nomatch h)⟩
theorem oneR_in {ks : List κ} {f : κ → κ} (hf : ∀ k ∈ ks, f k ∈ ks) {least : List κ → List κ} {s : List κ × List (List κ)} (h : Met ks s) {k : κ} (hk : k ∈ ks) :
    ∃ m, (goR f (ks.length - s.1.length) s.1 [] k).1 = s.1 ++ pathR f k m ∧ (goR f (ks.length - s.1.length) s.1 [] k).2.1 = pathR f k m ∧ (goR f (ks.length - s.1.length) s.1 [] k).2.2 = itR f k m ∧ itR f k m ∈ s.1 ++ pathR f k m := by
  obtain ⟨m0, w, w2, w3⟩ := goR_end hf _ _ _ _ (h.way (f := f) hk)
  obtain ⟨m, _, e1, e2⟩ := goR_path (f := f) (x := k) (ks.length - s.1.length) s.1 0
  have e1 : (goR f (ks.length - s.1.length) s.1 [] k).2.1 = pathR f k m := e1
  have e2 : (goR f (ks.length - s.1.length) s.1 [] k).2.2 = itR f k m := e2
  have e3 := w3 s.1 (by rw [List.append_nil])
  rw [e1] at e3
  refine ⟨m, e3, e1, e2, ?_⟩
  rw [← e3, ← e2]; exact w2
theorem Fnd.one {ks : List κ} {f : κ → κ} (hf : ∀ k ∈ ks, f k ∈ ks) {least : List κ → List κ} (hl : Turns least) {s : List κ × List (List κ)} (h : Fnd ks f s) {k : κ} (hk : k ∈ ks) : Fnd ks f (oneR f least ks.length s k) ∧ k ∈ (oneR f least ks.length s k).1 ∧ ∀ v ∈ s.1, v ∈ (oneR f least ks.length s k).1 := by
  obtain ⟨m, e1, e2, e3, e4⟩ := oneR_in hf (least := least) h.met hk
  have met := h.met.one hf (least := least) hk
  unfold oneR at met ⊢
  dsimp only at met ⊢
  rw [e1, e2, e3] at met ⊢
  have nd : (s.1 ++ pathR f k m).Nodup := met.nd
  have clos : ∀ v ∈ s.1 ++ pathR f k m, f v ∈ s.1 ++ pathR f k m := fun v hv => by
    rcases List.mem_append.mp hv with q | q
    · exact List.mem_append_left _ (h.clos v q)
    · obtain ⟨i, hi, rfl⟩ := pathR_mem.mp q
      by_cases z : i + 1 < m
      · exact List.mem_append_right _ (pathR_mem.mpr ⟨i + 1, z, rfl⟩)
      · have : i + 1 = m := by omega
        show itR f k (i + 1) ∈ _
        rw [this]; exact e4
  have hkV : k ∈ s.1 ++ pathR f k m := by
    by_cases z : 0 < m
    · exact List.mem_append_right _ (pathR_mem.mpr ⟨0, z, rfl⟩)
    · have : m = 0 := by omega
      subst this; exact e4
  refine ⟨?_, hkV, fun v hv => List.mem_append_left _ hv⟩
  split
  · rename_i hin
    obtain ⟨i, hi, ei⟩ := pathR_mem.mp hin
    -- the ring
    have hx : (pathR f k m).idxOf (itR f k m) < m := by
      have := List.idxOf_lt_length_iff.mpr hin
      rw [pathR_len] at this; exact this
    have hxe : itR f k ((pathR f k m).idxOf (itR f k m)) = itR f k m := by
      have h1 := List.getElem_idxOf (xs := pathR f k m) (x := itR f k m) (by rw [pathR_len]; exact hx)
      have h2 : (pathR f k m)[(pathR f k m).idxOf (itR f k m)]? = some (itR f k ((pathR f k m).idxOf (itR f k m))) := pathR_get hx
      rw [List.getElem?_eq_getElem (by rw [pathR_len]; exact hx), h1] at h2
      exact (Option.some.inj h2).symm
    generalize (pathR f k m).idxOf (itR f k m) = j at hx hxe ⊢
    have ed := pathR_drop f k m j (by omega)
    have cy : Cyc f ((pathR f k m).drop j) := by
      rw [ed]
      refine ⟨by rw [pathR_len]; omega, ?_, itR f k j, by rw [pathR_len], by rw [pathR_len, ← itR_add, show j + (m - j) = m by omega, hxe]⟩
      rw [← ed]
      exact ((List.nodup_append.mp nd).2.1).sublist (List.drop_sublist _ _)
    have cyp := cy.pos
    obtain ⟨t, ht, et⟩ := hl.at_ _ (List.length_pos_iff.mp cy.pos)
    rw [et]
    have cy2 := cy.rot ht
    have mem2 : ∀ v, v ∈ ((pathR f k m).drop j).drop t ++ ((pathR f k m).drop j).take t ↔ v ∈ (pathR f k m).drop j := fun v => by
      have : (((pathR f k m).drop j).drop t ++ ((pathR f k m).drop j).take t).Perm ((pathR f k m).drop j) := List.perm_append_comm.trans (by rw [List.take_append_drop])
      exact this.mem_iff
    generalize ((pathR f k m).drop j).drop t ++ ((pathR f k m).drop j).take t = r at cy2 mem2 ⊢
    have subr : ∀ v ∈ r, v ∈ pathR f k m := fun v hv => List.mem_of_mem_drop ((mem2 v).mp hv)
    refine ⟨⟨met.nd, met.sub⟩, clos, fun c hc => ?_, fun c hc v hv => ?_, ?_, fun v hv => ?_⟩
    · rcases List.mem_append.mp hc with q | q
      · exact h.cyc c q
      · have : c = r := by simpa using q
        rw [this]; exact cy2
    · rcases List.mem_append.mp hc with q | q
      · exact List.mem_append_left _ (h.sub c q v hv)
      · have : c = r := by simpa using q
        rw [this] at hv; exact List.mem_append_right _ (subr v hv)
    · refine List.pairwise_append.mpr ⟨h.dj, List.pairwise_singleton _ _, fun c hc d hd v hv hvd => ?_⟩
      have : d = r := by simpa using hd
      rw [this] at hvd
      exact (List.nodup_append.mp nd).2.2 v (h.sub c hc v hv) v (subr v hvd) rfl
    · rcases List.mem_append.mp hv with q | q
      · obtain ⟨n, c, hc, hn⟩ := h.rch v q
        exact ⟨n, c, List.mem_append_left _ hc, hn⟩
      · obtain ⟨i, hi, rfl⟩ := pathR_mem.mp q
        refine ⟨m - i, r, List.mem_append_right _ List.mem_cons_self, ?_⟩
        rw [← itR_add, show i + (m - i) = m by omega, ← hxe, mem2, ed]
        exact pathR_mem.mpr ⟨0, by omega, rfl⟩
  · rename_i hout
    have e5 : itR f k m ∈ s.1 := (List.mem_append.mp e4).elim id fun z => absurd z hout
    refine ⟨⟨met.nd, met.sub⟩, clos, h.cyc, fun c hc v hv => List.mem_append_left _ (h.sub c hc v hv), h.dj, fun v hv => ?_⟩
    rcases List.mem_append.mp hv with q | q
    · exact h.rch v q
    · obtain ⟨i, hi, rfl⟩ := pathR_mem.mp q
      obtain ⟨n, c, hc, hn⟩ := h.rch _ e5
      refine ⟨(m - i) + n, c, hc, ?_⟩
      rw [← itR_add, ← Nat.add_assoc, show i + (m - i) = m by omega, itR_add]; exact hn
theorem allR_fnd {ks : List κ} {f : κ → κ} (hf : ∀ k ∈ ks, f k ∈ ks) {least : List κ → List κ} (hl : Turns least) : ∀ t, t ≤ ks.length → Fnd ks f (allR f least ks t) ∧ ∀ i k, i < t → ks[i]? = some k → k ∈ (allR f least ks t).1
  | 0, _ => ⟨Fnd.start, fun _ _ h => absurd h (Nat.not_lt_zero _)⟩
  | t + 1, ht => by
    have e : ks[t]? = some ks[t] := List.getElem?_eq_getElem (by omega)
    obtain ⟨h1, h2⟩ := allR_fnd hf hl t (by omega)
    rw [allR_succ e]
    obtain ⟨h3, h4, h5⟩ := h1.one hf hl (k := ks[t]) (List.getElem_mem _)
    refine ⟨h3, fun i k hi ei => ?_⟩
    by_cases q : i < t
    · exact h5 _ (h2 i k q ei)
    · have : i = t := by omega
      subst this
      rw [e] at ei; cases ei; exact h4
/-- all rings of f over ks -/
structure Rgs (ks : List κ) (f : κ → κ) (L : List (List κ)) : Prop where
  cyc : ∀ c ∈ L, Cyc f c
  sub : ∀ c ∈ L, ∀ v ∈ c, v ∈ ks
  dj : L.Pairwise fun c d => ∀ v ∈ c, v ∉ d
  rch : ∀ v ∈ ks, ∃ n c, c ∈ L ∧ itR f v n ∈ c
theorem allR_rgs {ks : List κ} {f : κ → κ} (hf : ∀ k ∈ ks, f k ∈ ks) {least : List κ → List κ} (hl : Turns least) : Rgs ks f (allR f least ks ks.length).2 := by
  obtain ⟨h1, h2⟩ := allR_fnd hf hl ks.length (Nat.le_refl _)
  refine ⟨h1.cyc, fun c hc v hv => h1.met.sub v (h1.sub c hc v hv), h1.dj, fun v hv => ?_⟩
  obtain ⟨i, hi, e⟩ := List.getElem_of_mem hv
  exact h1.rch v (h2 i v hi (by rw [List.getElem?_eq_getElem hi, e]))
theorem Rgs.perm {ks : List κ} {f : κ → κ} {L M : List (List κ)} (h : Rgs ks f L) (p : M.Perm L) : Rgs ks f M :=
  ⟨fun c hc => h.cyc c (p.mem_iff.mp hc), fun c hc => h.sub c (p.mem_iff.mp hc), (p.pairwise_iff fun {a b} z v hv hv2 => z v hv2 hv).mpr h.dj, fun v hv => let ⟨n, c, hc, e⟩ := h.rch v hv; ⟨n, c, p.mem_iff.mpr hc, e⟩⟩
/-- what comes back is in one of them -/
theorem Rgs.back {ks : List κ} {f : κ → κ} {L : List (List κ)} (h : Rgs ks f L) {v : κ} (hv : v ∈ ks) {n : Nat} (h0 : 0 < n) (e : itR f v n = v) : ∃ c ∈ L, v ∈ c := by
  obtain ⟨m, c, hc, hm⟩ := h.rch v hv
  refine ⟨c, hc, ?_⟩
  have laps : ∀ q, itR f v (q * n) = v := fun q => by
    induction q with
    | zero => rw [Nat.zero_mul]; rfl
    | succ q ih => rw [Nat.succ_mul, itR_add, ih, e]
  have h1 := (h.cyc c hc).nexts hm (m * n - m)
  have : m ≤ m * n := Nat.le_mul_of_pos_right m h0
  rw [← itR_add, show m + (m * n - m) = m * n by omega, laps] at h1
  exact h1
end
end DL

set_option Elab.async false
set_option linter.all false
set_option maxRecDepth 100000
set_option maxHeartbeats 1000000
namespace DL
open PySem PySem.Spec L2
/-! ## all trips have one pace, without a common part -/
/-- a walk that comes back, first behind n ticks -/
structure Bd.Trip (bd : Bd) (s : Sd) (n : Nat) : Prop where
  ok : s.ok bd
  pos : 0 < n
  back : bd.go s n = s
  least : ∀ m, 0 < m → bd.go s m = s → n ≤ m
section
variable {bd : Bd} {s u : Sd} {n m : Nat}
/-- the second reader's steps -/
def Bd.G (bd : Bd) (s : Sd) (t : Nat) : Nat := t - bd.F s t
theorem Bd.FG (bd : Bd) (s : Sd) (t : Nat) : bd.F s t + bd.G s t = t := by
  have := Bd.F_le (bd := bd) (s := s) t
  unfold Bd.G; omega
theorem Bd.G_mono {k n : Nat} (h : k ≤ n) : bd.G s k ≤ bd.G s n := by
  have := Bd.F_le1 (bd := bd) (s := s) h
  have := Bd.F_le (bd := bd) (s := s) k
  have := Bd.F_le (bd := bd) (s := s) n
  unfold Bd.G; omega
theorem Bd.G_add (bd : Bd) (s : Sd) (t u : Nat) : bd.G s (t + u) = bd.G s t + bd.G (bd.go s t) u := by
  have h1 := Bd.F_add bd s t u
  have h2 := Bd.FG bd s (t + u)
  have h3 := Bd.FG bd s t
  have h4 := Bd.FG bd (bd.go s t) u
  omega
theorem Bd.laps (h : bd.go s n = s) : ∀ k, bd.go s (k * n) = s ∧ bd.F s (k * n) = k * bd.F s n ∧ bd.G s (k * n) = k * bd.G s n
  | 0 => by rw [Nat.zero_mul, Nat.zero_mul, Nat.zero_mul]; exact ⟨rfl, rfl, rfl⟩
  | k + 1 => by
    obtain ⟨h1, h2, h3⟩ := Bd.laps h k
    rw [Nat.succ_mul, Bd.go_add, Bd.F_add, Bd.G_add, h1, h2, h3, Nat.succ_mul, Nat.succ_mul]
    exact ⟨h, rfl, rfl⟩
theorem Bd.F_all {v : Nat} : ∀ {N : Nat}, v ≤ bd.F s N → ∃ t, t ≤ N ∧ bd.F s t = v
  | 0, h => ⟨0, Nat.le_refl _, by have : bd.F s 0 = 0 := rfl; omega⟩
  | N + 1, h => by
    by_cases q : v ≤ bd.F s N
    · obtain ⟨t, h1, h2⟩ := Bd.F_all q
      exact ⟨t, by omega, h2⟩
    · refine ⟨N + 1, Nat.le_refl _, ?_⟩
      rw [Bd.F_succ] at h ⊢
      split at h <;> simp_all <;> omega
theorem Bd.Trip.shift (h : bd.Trip s n) (hok : bd.ok) (t : Nat) : bd.Trip (bd.go s t) n ∧ bd.F (bd.go s t) n = bd.F s n := by
  have e1 : bd.go (bd.go s t) n = bd.go s t := by rw [← Bd.go_add, Nat.add_comm, Bd.go_add, h.back]
  refine ⟨⟨Bd.go_ok hok h.ok t, h.pos, e1, fun m hm em => h.least m hm ?_⟩, ?_⟩
  · have hle : t ≤ t * n := Nat.le_mul_of_pos_right t h.pos
    have l := (Bd.laps h.back t).1
    have e2 : bd.go s (t * n + m) = bd.go (bd.go (bd.go s t) m) (t * n - t) := by
      rw [← Bd.go_add, ← Bd.go_add]; congr 1; omega
    rw [Bd.go_add, l, em, ← Bd.go_add, show t + (t * n - t) = t * n by omega, l] at e2
    exact e2
  · have e2 := Bd.F_add bd s t n
    have e3 := Bd.F_add bd s n t
    rw [h.back] at e3
    rw [Nat.add_comm] at e3
    omega
theorem Bd.Trip.divs (h : bd.Trip s n) (hok : bd.ok) : ∃ p q, bd.F s n = p * bd.a.length ∧ bd.G s n = q * bd.b.length := by
  have e1 := Bd.go_i hok h.ok n
  have e2 := Bd.go_j hok h.ok n
  rw [h.back] at e1 e2
  have hi := h.ok.1
  have hj := h.ok.2
  have key : ∀ {i x A : Nat}, i < A → (i + x) % A = i → x = x / A * A := fun {i x A} hi e => by
    have h1 := Nat.div_add_mod (i + x) A
    have h2 := Nat.div_add_mod x A
    have h3 : x % A = 0 := by
      rw [e] at h1
      have : x = A * ((i + x) / A) := by omega
      rw [this, Nat.mul_mod_right]
    rw [Nat.mul_comm]; omega
  exact ⟨_, _, key hi e1, key hj e2⟩
/-! ### a column that nobody leaves -/
theorem Bd.fst_per (h : bd.go s n = s) (h0 : 0 < n) (hF : bd.F s n = 0) (t : Nat) : bd.fst (bd.go s t) = false := by
  have l := Bd.laps h (t + 1)
  rw [hF, Nat.mul_zero] at l
  have hle : t + 1 ≤ (t + 1) * n := Nat.le_mul_of_pos_right _ h0
  have := Bd.F_mono (bd := bd) (s := s) hle
  rw [l.2.1, Bd.F_succ] at this
  cases q : bd.fst (bd.go s t)
  · rfl
  · rw [q] at this; simp at this
theorem Bd.F_zero_all (h : bd.go s n = s) (h0 : 0 < n) (hF : bd.F s n = 0) : ∀ t, bd.F s t = 0
  | 0 => rfl
  | t + 1 => by rw [Bd.F_succ, Bd.F_zero_all h h0 hF t, Bd.fst_per h h0 hF t]; rfl
theorem Bd.Trip.barred (h : bd.Trip s n) (hok : bd.ok) (hF : bd.F s n = 0) : s.f = false ∧ ∀ x : Sd, x.ok bd → x.i = s.i → bd.fst x = false := by
  have hz := Bd.F_zero_all h.back h.pos hF
  have hf := Bd.fst_per h.back h.pos hF
  have hl : ∀ t, (bd.go s (t + 1)).f = false := fun t => by
    show (bd.tick (bd.go s t)).f = false
    rw [Bd.tick_f]; exact hf t
  have sf : s.f = false := by
    have := hl (n - 1)
    rw [show n - 1 + 1 = n by have := h.pos; omega, h.back] at this; exact this
  have al : ∀ t, (bd.go s t).f = false := fun t => by
    cases t with
    | zero => exact sf
    | succ t => exact hl t
  refine ⟨sf, fun x hx ei => ?_⟩
  -- the walk stands at x's place some time
  have hb := hok.b1
  have hj := h.ok.2
  have hxj := hx.2
  have e1 := Bd.go_i hok h.ok (x.j + bd.b.length - s.j)
  have e2 := Bd.go_j hok h.ok (x.j + bd.b.length - s.j)
  rw [hz, Nat.add_zero, Nat.mod_eq_of_lt h.ok.1] at e1
  rw [hz, Nat.sub_zero, show s.j + (x.j + bd.b.length - s.j) = x.j + bd.b.length by omega, Nat.add_mod_right, Nat.mod_eq_of_lt hxj] at e2
  have e3 := hf (x.j + bd.b.length - s.j)
  have e4 := al (x.j + bd.b.length - s.j)
  unfold Bd.fst at e3 ⊢
  rw [← e1, ← e2, e4, ← ei] at e3
  rw [Bool.or_eq_false_iff] at e3 ⊢
  refine ⟨e3.1, ?_⟩
  have := e3.2
  rw [Bool.not_false, Bool.and_true] at this
  rw [this]; rfl
theorem Bd.F_stop (hok : bd.ok) (hs : s.ok bd) {c : Nat} (hc : ∀ x : Sd, x.ok bd → x.i = c → bd.fst x = false) (hi : s.i = c) : ∀ t, bd.F s t = 0 ∧ (bd.go s t).i = c
  | 0 => ⟨rfl, hi⟩
  | t + 1 => by
    obtain ⟨h1, h2⟩ := Bd.F_stop hok hs hc hi t
    have h3 := hc _ (Bd.go_ok hok hs t) h2
    rw [Bd.F_succ, h1, h3]
    refine ⟨rfl, ?_⟩
    show (bd.tick (bd.go s t)).i = c
    unfold Bd.tick
    rw [h3]; exact h2
/-- where F comes to each column -/
theorem Bd.Trip.column (h : bd.Trip s n) (hok : bd.ok) (hF : 0 < bd.F s n) {c : Nat} (hc : c < bd.a.length) : ∃ t, (bd.go s t).i = c := by
  obtain ⟨p, q, hp, _⟩ := h.divs hok
  have p1 : 1 ≤ p := by
    rcases Nat.eq_zero_or_pos p with z | z
    · rw [z, Nat.zero_mul] at hp; omega
    · exact z
  have hA : bd.a.length ≤ bd.F s n := by rw [hp]; exact Nat.le_mul_of_pos_left _ p1
  have hi := h.ok.1
  have hv : (c + bd.a.length - s.i) % bd.a.length ≤ bd.F s n := Nat.le_trans (Nat.le_of_lt (Nat.mod_lt _ (by omega))) hA
  obtain ⟨t, _, ht⟩ := Bd.F_all hv
  refine ⟨t, ?_⟩
  rw [← Bd.go_i hok h.ok t, ht, Nat.add_mod_mod, show s.i + (c + bd.a.length - s.i) = c + bd.a.length by omega, Nat.add_mod_right, Nat.mod_eq_of_lt hc]
/-- one trip that never steps first: all are so, and go round the second one once -/
theorem Bd.Trip.zero (h : bd.Trip s n) (hok : bd.ok) (hF : bd.F s n = 0) : n = bd.b.length := by
  have hz := Bd.F_zero_all h.back h.pos hF
  obtain ⟨sf, hb⟩ := h.barred hok hF
  obtain ⟨p, q, _, hq⟩ := h.divs hok
  have hG : bd.G s n = n := by have := Bd.FG bd s n; omega
  rw [hG] at hq
  have b1 := hok.b1
  have q1 : 1 ≤ q := by
    rcases Nat.eq_zero_or_pos q with z | z
    · rw [z, Nat.zero_mul] at hq; have := h.pos; omega
    · exact z
  have hle : bd.b.length ≤ n := by rw [hq]; exact Nat.le_mul_of_pos_left _ q1
  refine Nat.le_antisymm (h.least _ (by omega) ?_) hle
  have e1 := Bd.go_i hok h.ok bd.b.length
  have e2 := Bd.go_j hok h.ok bd.b.length
  rw [hz, Nat.add_zero, Nat.mod_eq_of_lt h.ok.1] at e1
  rw [hz, Nat.sub_zero, Nat.add_mod_right, Nat.mod_eq_of_lt h.ok.2] at e2
  have e3 : (bd.go s bd.b.length).f = false := by
    rw [show bd.b.length = bd.b.length - 1 + 1 by omega]
    show (bd.tick _).f = false
    rw [Bd.tick_f]; exact Bd.fst_per h.back h.pos hF _
  generalize bd.go s bd.b.length = x at e1 e2 e3
  cases x; cases s
  simp only at e1 e2 e3 sf
  subst e1 e2 e3 sf; rfl
theorem Bd.Trip.zero_all (h : bd.Trip s n) (hok : bd.ok) (hF : bd.F s n = 0) (h' : bd.Trip u m) : bd.F u m = 0 := by
  obtain ⟨_, hb⟩ := h.barred hok hF
  rcases Nat.eq_zero_or_pos (bd.F u m) with z | z
  · exact z
  · obtain ⟨t, ht⟩ := h'.column hok z h.ok.1
    have e := Bd.F_stop hok (Bd.go_ok hok h'.ok t) hb ht m
    rw [(h'.shift hok t).2] at e
    omega
/-! ### the same slope -/
theorem Bd.hts_at {bd : Bd} {s : Sd} {m : Nat} : ∀ {n : Nat}, m < bd.F s n → ∃ v, (bd.hts s n)[m]? = some v := fun {n} h => by
  rw [← Bd.hts_len] at h
  exact ⟨_, List.getElem?_eq_getElem h⟩
theorem slope_le {a b c d : Nat} (h : ∀ N, N * a ≤ N * b + c) : a ≤ b := by
  refine Nat.le_of_not_lt fun z => ?_
  have := h (c + 1)
  have h2 : (c + 1) * (b + 1) ≤ (c + 1) * a := Nat.mul_le_mul_left _ z
  rw [Nat.mul_succ] at h2
  omega
theorem Bd.slope0 (hok : bd.ok) (h : bd.Trip s n) (h' : bd.Trip u m) (ei : s.i = u.i) (l : leL s.j s.f u.j u.f) {p q p' q' : Nat} (hp : bd.F s n = p * bd.a.length) (hq : bd.G s n = q * bd.b.length) (hp' : bd.F u m = p' * bd.a.length) (hq' : bd.G u m = q' * bd.b.length) (p1 : 1 ≤ p) (p1' : 1 ≤ p') : p' * q = p * q' := by
  have a1 := hok.a1
  have b1 := hok.b1
  -- heights of the crossing behind N times both
  have bnd : ∀ {x : Sd} {k r : Nat}, bd.go x k = x → 0 < bd.F x k → ∀ N v, (bd.hts x ((N + 1) * k))[N * bd.F x k]? = some v → N * bd.G x k ≤ v ∧ v ≤ (N + 1) * bd.G x k := fun {x k r} hx hF N v hv => by
    obtain ⟨t, h1, h2, h3, rfl⟩ := Bd.hts_get hv
    have l0 := Bd.laps hx N
    have l1 := Bd.laps hx (N + 1)
    have ht : N * k ≤ t := by
      refine Nat.le_of_not_lt fun z => ?_
      have := Bd.F_mono (bd := bd) (s := x) (show t + 1 ≤ N * k by omega)
      rw [Bd.F_succ, h2, h3, l0.2.1, if_pos rfl] at this
      omega
    have g1 := Bd.G_mono (bd := bd) (s := x) ht
    have g2 := Bd.G_mono (bd := bd) (s := x) (Nat.le_of_lt h1)
    rw [l0.2.2] at g1
    rw [l1.2.2] at g2
    exact ⟨g1, g2⟩
  have hF : 0 < bd.F s n := by rw [hp]; exact Nat.mul_pos p1 (by omega)
  have hF' : 0 < bd.F u m := by rw [hp']; exact Nat.mul_pos p1' (by omega)
  have key : ∀ N, s.j + N * p' * bd.G s n ≤ u.j + (N * p + 1) * bd.G u m ∧ u.j + N * p * bd.G u m ≤ s.j + (N * p' + 1) * bd.G s n + bd.b.length := fun N => by
    have i1 : N * p' * bd.F s n < bd.F s ((N * p' + 1) * n) := by rw [(Bd.laps h.back _).2.1, Nat.succ_mul]; omega
    have i2 : N * p * bd.F u m < bd.F u ((N * p + 1) * m) := by rw [(Bd.laps h'.back _).2.1, Nat.succ_mul]; omega
    have ei2 : N * p' * bd.F s n = N * p * bd.F u m := by rw [hp, hp']; simp only [Nat.mul_assoc, Nat.mul_left_comm, Nat.mul_comm]
    obtain ⟨v, hv⟩ := Bd.hts_at i1
    obtain ⟨x, hx⟩ := Bd.hts_at i2
    obtain ⟨v1, v2⟩ := bnd (r := 0) h.back hF _ v hv
    obtain ⟨x1, x2⟩ := bnd (r := 0) h'.back hF' _ x hx
    rw [ei2] at hv
    have := Bd.between hok h.ok h'.ok ei l hv hx
    omega
  have k1 : p' * bd.G s n ≤ p * bd.G u m := slope_le (d := 0) (c := u.j + bd.G u m) fun N => by
    have := (key N).1
    rw [Nat.succ_mul] at this
    rw [← Nat.mul_assoc, ← Nat.mul_assoc]; omega
  have k2 : p * bd.G u m ≤ p' * bd.G s n := slope_le (d := 0) (c := s.j + bd.G s n + bd.b.length) fun N => by
    have := (key N).2
    rw [Nat.succ_mul] at this
    rw [← Nat.mul_assoc, ← Nat.mul_assoc]; omega
  have k3 := Nat.le_antisymm k1 k2
  rw [hq, hq', ← Nat.mul_assoc, ← Nat.mul_assoc] at k3
  exact Nat.eq_of_mul_eq_mul_right (by omega) k3
theorem leL_or (y : Nat) (f : Bool) (y' : Nat) (f' : Bool) : leL y f y' f' ∨ leL y' f' y f := by
  unfold leL
  rcases Nat.lt_trichotomy y y' with h | h | h
  · exact .inl (.inl h)
  · cases f <;> cases f' <;> simp [h]
  · exact .inr (.inl h)
theorem Bd.slope (hok : bd.ok) (h : bd.Trip s n) (h' : bd.Trip u m) {p q p' q' : Nat} (hp : bd.F s n = p * bd.a.length) (hq : bd.G s n = q * bd.b.length) (hp' : bd.F u m = p' * bd.a.length) (hq' : bd.G u m = q' * bd.b.length) (p1 : 1 ≤ p) (p1' : 1 ≤ p') : p' * q = p * q' := by
  have a1 := hok.a1
  have hF' : 0 < bd.F u m := by rw [hp']; exact Nat.mul_pos p1' (by omega)
  obtain ⟨t, ht⟩ := h'.column hok hF' h.ok.1
  obtain ⟨h2, e2⟩ := h'.shift hok t
  have e3 : bd.G (bd.go u t) m = bd.G u m := by unfold Bd.G; rw [e2]
  rw [← e2] at hp'
  rw [← e3] at hq'
  rcases leL_or s.j s.f (bd.go u t).j (bd.go u t).f with l | l
  · exact Bd.slope0 hok h h2 ht.symm l hp hq hp' hq' p1 p1'
  · exact (Bd.slope0 hok h2 h ht l hp' hq' hp hq p1' p1).symm
/-! ### no common part -/
theorem Bd.fL_col (bd : Bd) (i y : Nat) (f : Bool) : bd.fL (i + bd.a.length) y f = bd.fL i y f := by
  unfold Bd.fL; rw [Nat.add_mod_right]
theorem Bd.Ex.col {bd : Bd} {i y h : Nat} {f : Bool} {k : Nat} (e : bd.Ex k y f h) : ∀ i, k % bd.a.length = i % bd.a.length → bd.Ex i y f h := by
  induction e with
  | here q => intro i ei; exact .here (by unfold Bd.fL at q ⊢; rw [← ei]; exact q)
  | up q e ih => intro i ei; exact .up (by unfold Bd.fL at q ⊢; rw [← ei]; exact q) (ih i ei)
theorem Bd.ExN.col {bd : Bd} : ∀ {m k i y h : Nat} {f : Bool}, bd.ExN m k y f h → k % bd.a.length = i % bd.a.length → bd.ExN m i y f h
  | 0, _, _, _, _, _, e, ei => Bd.Ex.col (i := 0) e _ ei
  | m + 1, _, _, _, _, _, ⟨h0, e, r⟩, ei => ⟨h0, Bd.Ex.col (i := 0) e _ ei, Bd.ExN.col r (by rw [Nat.add_mod, ei, ← Nat.add_mod])⟩
theorem Bd.ExN.rounds {bd : Bd} {m i y h : Nat} {f : Bool} (e : bd.ExN m i y f h) : ∀ r, bd.ExN m i (y + r * bd.b.length) f (h + r * bd.b.length)
  | 0 => by rw [Nat.zero_mul]; exact e
  | r + 1 => by rw [Nat.succ_mul, ← Nat.add_assoc, ← Nat.add_assoc]; exact (Bd.ExN.rounds e r).round
/-- the tick by which F comes to v, v above 0 -/
theorem Bd.F_come {v : Nat} (h0 : 0 < v) : ∀ {N : Nat}, v ≤ bd.F s N → ∃ t, t < N ∧ bd.F s t + 1 = v ∧ bd.fst (bd.go s t) = true
  | 0, h => by have : bd.F s 0 = 0 := rfl; omega
  | N + 1, h => by
    by_cases q : v ≤ bd.F s N
    · obtain ⟨t, h1, h2⟩ := Bd.F_come h0 q
      exact ⟨t, by omega, h2⟩
    · rw [Bd.F_succ] at h
      cases z : bd.fst (bd.go s N)
      · rw [z] at h; simp at h; omega
      · rw [z, if_pos rfl] at h
        exact ⟨N, Nat.lt_succ_self _, by omega, z⟩
theorem Bd.Trip.cop (h : bd.Trip s n) (hok : bd.ok) {p q d : Nat} (p1 : 1 ≤ p) (hp : bd.F s n = d * p * bd.a.length) (hq : bd.G s n = d * q * bd.b.length) (d1 : 1 ≤ d) : d = 1 := by
  have a1 := hok.a1
  have b1 := hok.b1
  have hF : 0 < bd.F s n := by rw [hp]; exact Nat.mul_pos (Nat.mul_pos d1 p1) (by omega)
  -- begun where the first reader has just stepped
  obtain ⟨t, _, _, tf⟩ := Bd.F_come (v := 1) Nat.one_pos hF
  obtain ⟨h2, e2⟩ := h.shift hok (t + 1)
  have e3 : bd.G (bd.go s (t + 1)) n = bd.G s n := by unfold Bd.G; rw [e2]
  have sf : (bd.go s (t + 1)).f = true := by
    show (bd.tick _).f = true
    rw [Bd.tick_f]; exact tf
  rw [← e2] at hp hF
  rw [← e3] at hq
  clear e2 e3 tf
  clear h
  generalize bd.go s (t + 1) = s at h2 hp hq hF sf
  -- the heights behind k times p rounds
  have pA : 0 < p * bd.a.length := Nat.mul_pos p1 (by omega)
  have tau : ∀ k, 1 ≤ k → ∃ t, bd.F s t + 1 = k * (p * bd.a.length) ∧ bd.fst (bd.go s t) = true := fun k hk => by
    have l := (Bd.laps h2.back k).2.1
    have : k * (p * bd.a.length) ≤ bd.F s (k * n) := by
      rw [l, hp, Nat.mul_assoc]
      exact Nat.mul_le_mul_left _ (Nat.le_mul_of_pos_left _ d1)
    obtain ⟨t, _, h1, h3⟩ := Bd.F_come (Nat.mul_pos hk pA) this
    exact ⟨t, h1, h3⟩
  have hA : ∀ k, ∃ τ, bd.F s τ = k * (p * bd.a.length) ∧ (bd.go s τ).f = true ∧ (k = 0 → τ = 0) ∧ (1 ≤ k → ∃ t, τ = t + 1 ∧ bd.F s t + 1 = k * (p * bd.a.length) ∧ bd.fst (bd.go s t) = true) := fun k => by
    rcases Nat.eq_zero_or_pos k with z | z
    · subst z; exact ⟨0, by rw [Nat.zero_mul]; rfl, sf, fun _ => rfl, fun z => by omega⟩
    · obtain ⟨t, h1, h3⟩ := tau k z
      refine ⟨t + 1, by rw [Bd.F_succ, h3]; exact h1, ?_, fun z => by omega, fun _ => ⟨t, rfl, h1, h3⟩⟩
      show (bd.tick _).f = true
      rw [Bd.tick_f]; exact h3
  have step : ∀ k τ τ', bd.F s τ = k * (p * bd.a.length) → (bd.go s τ).f = true → (∃ t, τ' = t + 1 ∧ bd.F s t + 1 = (k + 1) * (p * bd.a.length) ∧ bd.fst (bd.go s t) = true) → bd.ExN (p * bd.a.length - 1) s.i (s.j + bd.G s τ) true (s.j + bd.G s τ') := fun k τ τ' h1 h3 ⟨t, e, h4, h5⟩ => by
    subst e
    have hle : τ ≤ t := by
      refine Nat.le_of_not_lt fun z => ?_
      have := Bd.F_mono (bd := bd) (s := s) (show t + 1 ≤ τ by omega)
      rw [Bd.F_succ, h5, if_pos rfl, h4, h1, Nat.succ_mul] at this
      omega
    rw [Nat.succ_mul] at h4
    have ex := Bd.exN_at hok h2.ok h5 (p * bd.a.length - 1) τ hle (by omega)
    rw [h3, h1, show τ - k * (p * bd.a.length) = bd.G s τ by unfold Bd.G; rw [h1]] at ex
    have eg : bd.G s (t + 1) = t - bd.F s t := by
      have := Bd.F_le (bd := bd) (s := s) t
      unfold Bd.G; rw [Bd.F_succ, h5, if_pos rfl]; omega
    rw [eg]
    exact ex.col (by rw [← Nat.mul_assoc, Nat.add_mul_mod_self_right])
  -- all of them
  have all : ∀ k, ∃ τ, bd.F s τ = k * (p * bd.a.length) ∧ (bd.go s τ).f = true ∧ (k = 0 → τ = 0) := fun k => let ⟨τ, a, b, c, _⟩ := hA k; ⟨τ, a, b, c⟩
  have uniq : ∀ k τ τ', bd.F s τ = k * (p * bd.a.length) → (∃ t, τ = t + 1 ∧ bd.F s t + 1 = k * (p * bd.a.length) ∧ bd.fst (bd.go s t) = true) → (∃ t, τ' = t + 1 ∧ bd.F s t + 1 = k * (p * bd.a.length) ∧ bd.fst (bd.go s t) = true) → τ = τ' := fun k τ τ' _ ⟨t, e1, h1, f1⟩ ⟨t', e2, h3, f2⟩ => by
    subst e1 e2
    rcases Nat.lt_trichotomy t t' with z | z | z
    · have := Bd.F_mono (bd := bd) (s := s) (show t + 1 ≤ t' by omega)
      rw [Bd.F_succ, f1, if_pos rfl] at this; omega
    · rw [z]
    · have := Bd.F_mono (bd := bd) (s := s) (show t' + 1 ≤ t by omega)
      rw [Bd.F_succ, f2, if_pos rfl] at this; omega
  -- behind d of them all is as begun
  have atn : ∃ t, n = t + 1 ∧ bd.F s t + 1 = d * (p * bd.a.length) ∧ bd.fst (bd.go s t) = true := by
    have n1 := h2.pos
    refine ⟨n - 1, by omega, ?_⟩
    have hb : (bd.go s (n - 1 + 1)).f = true := by rw [show n - 1 + 1 = n by omega, h2.back]; exact sf
    have hb : bd.fst (bd.go s (n - 1)) = true := by
      have hb : (bd.tick (bd.go s (n - 1))).f = true := hb
      rw [Bd.tick_f] at hb; exact hb
    refine ⟨?_, hb⟩
    have := Bd.F_succ (bd := bd) (s := s) (k := n - 1)
    rw [show n - 1 + 1 = n by omega, hb, if_pos rfl, hp, Nat.mul_assoc] at this
    omega
  obtain ⟨τ1, f1, l1, _, x1⟩ := hA 1
  have x1 := x1 (Nat.le_refl _)
  have ex0 : bd.ExN (p * bd.a.length - 1) s.i s.j true (s.j + bd.G s τ1) := step 0 0 τ1 (by rw [Nat.zero_mul]; rfl) sf (by simpa using x1)
  -- the first height
  have up : s.j + q * bd.b.length ≤ s.j + bd.G s τ1 → ∀ k τ τ', bd.F s τ = k * (p * bd.a.length) → (bd.go s τ).f = true → (∃ t, τ' = t + 1 ∧ bd.F s t + 1 = (k + 1) * (p * bd.a.length) ∧ bd.fst (bd.go s t) = true) → bd.G s τ + q * bd.b.length ≤ bd.G s τ' := fun h0 k => by
    induction k with
    | zero =>
      intro τ τ' h1 h3 h4
      have e4 := step 0 τ τ' h1 h3 h4
      have e5 : τ' = τ1 := uniq 1 τ' τ1 (by obtain ⟨t, e, ea, eb⟩ := h4; subst e; rw [Bd.F_succ, eb]; simpa using ea) (by simpa using h4) x1
      subst e5
      -- at 0 the height is that of s
      have hz : bd.G s τ ≤ 0 ∨ 0 < bd.G s τ := by omega
      rcases hz with z | z
      · omega
      · -- F is 0 and the last step was the first reader's: only at the beginning
        exfalso
        rw [Nat.zero_mul] at h1
        have ht : 0 < τ := by
          rcases Nat.eq_zero_or_pos τ with y | y
          · subst y; exact absurd z (Nat.lt_irrefl 0)
          · exact y
        have hb : (bd.go s (τ - 1 + 1)).f = true := by rw [show τ - 1 + 1 = τ by omega]; exact h3
        have hb : (bd.tick (bd.go s (τ - 1))).f = true := hb
        rw [Bd.tick_f] at hb
        have := Bd.F_succ (bd := bd) (s := s) (k := τ - 1)
        rw [show τ - 1 + 1 = τ by omega, hb, if_pos rfl] at this
        omega
    | succ k ih =>
      intro τ τ' h1 h3 h4
      obtain ⟨τ0, g1, g2, g3, g4⟩ := hA k
      have hx : ∃ t, τ = t + 1 ∧ bd.F s t + 1 = (k + 1) * (p * bd.a.length) ∧ bd.fst (bd.go s t) = true := by
        have ht : 0 < τ := by
          rcases Nat.eq_zero_or_pos τ with y | y
          · subst y
            have : bd.F s 0 = 0 := rfl
            rw [this, Nat.succ_mul] at h1; omega
          · exact y
        have hb : (bd.go s (τ - 1 + 1)).f = true := by rw [show τ - 1 + 1 = τ by omega]; exact h3
        have hb : (bd.tick (bd.go s (τ - 1))).f = true := hb
        rw [Bd.tick_f] at hb
        have := Bd.F_succ (bd := bd) (s := s) (k := τ - 1)
        rw [show τ - 1 + 1 = τ by omega, hb, if_pos rfl] at this
        exact ⟨τ - 1, by omega, by omega, hb⟩
      have e1 := step k τ0 τ g1 g2 hx
      have e2 := step (k + 1) τ τ' h1 h3 h4
      have e3 := e1.rounds q
      have e6 := ih τ0 τ g1 g2 hx
      have := e3.mono e2 (by
        by_cases z : s.j + bd.G s τ0 + q * bd.b.length < s.j + bd.G s τ
        · exact .inl z
        · exact .inr ⟨by omega, .inr rfl⟩)
      omega
  have dn : s.j + bd.G s τ1 ≤ s.j + q * bd.b.length → ∀ k τ τ', bd.F s τ = k * (p * bd.a.length) → (bd.go s τ).f = true → (∃ t, τ' = t + 1 ∧ bd.F s t + 1 = (k + 1) * (p * bd.a.length) ∧ bd.fst (bd.go s t) = true) → bd.G s τ' ≤ bd.G s τ + q * bd.b.length := fun h0 k => by
    induction k with
    | zero =>
      intro τ τ' h1 h3 h4
      have e5 : τ' = τ1 := uniq 1 τ' τ1 (by obtain ⟨t, e, ea, eb⟩ := h4; subst e; rw [Bd.F_succ, eb]; simpa using ea) (by simpa using h4) x1
      subst e5
      omega
    | succ k ih =>
      intro τ τ' h1 h3 h4
      obtain ⟨τ0, g1, g2, g3, g4⟩ := hA k
      have hx : ∃ t, τ = t + 1 ∧ bd.F s t + 1 = (k + 1) * (p * bd.a.length) ∧ bd.fst (bd.go s t) = true := by
        have ht : 0 < τ := by
          rcases Nat.eq_zero_or_pos τ with y | y
          · subst y
            have : bd.F s 0 = 0 := rfl
            rw [this, Nat.succ_mul] at h1; omega
          · exact y
        have hb : (bd.go s (τ - 1 + 1)).f = true := by rw [show τ - 1 + 1 = τ by omega]; exact h3
        have hb : (bd.tick (bd.go s (τ - 1))).f = true := hb
        rw [Bd.tick_f] at hb
        have := Bd.F_succ (bd := bd) (s := s) (k := τ - 1)
        rw [show τ - 1 + 1 = τ by omega, hb, if_pos rfl] at this
        exact ⟨τ - 1, by omega, by omega, hb⟩
      have e1 := step k τ0 τ g1 g2 hx
      have e2 := step (k + 1) τ τ' h1 h3 h4
      have e3 := e1.rounds q
      have e6 := ih τ0 τ g1 g2 hx
      have := e2.mono e3 (by
        by_cases z : s.j + bd.G s τ < s.j + bd.G s τ0 + q * bd.b.length
        · exact .inl z
        · exact .inr ⟨by omega, .inr rfl⟩)
      omega
  -- all heights, from the first one on
  have sumU : s.j + q * bd.b.length ≤ s.j + bd.G s τ1 → ∀ k, 1 ≤ k → ∀ τ, bd.F s τ = k * (p * bd.a.length) → (∃ t, τ = t + 1 ∧ bd.F s t + 1 = k * (p * bd.a.length) ∧ bd.fst (bd.go s t) = true) → bd.G s τ1 + (k - 1) * (q * bd.b.length) ≤ bd.G s τ := fun h0 k => by
    induction k with
    | zero => intro z; omega
    | succ k ih =>
      intro _ τ h1 h3
      rcases Nat.eq_zero_or_pos k with z | z
      · subst z
        have e5 : τ = τ1 := uniq 1 τ τ1 (by simpa using h1) (by simpa using h3) x1
        subst e5
        simp
      · obtain ⟨τ0, g1, g2, g3, g4⟩ := hA k
        have i1 := ih z τ0 g1 (g4 z)
        have i2 := up h0 k τ0 τ g1 g2 h3
        have i3 : (k + 1 - 1) * (q * bd.b.length) = (k - 1) * (q * bd.b.length) + q * bd.b.length := by
          rw [← Nat.succ_mul]; congr 1; omega
        omega
  have sumD : s.j + bd.G s τ1 ≤ s.j + q * bd.b.length → ∀ k, 1 ≤ k → ∀ τ, bd.F s τ = k * (p * bd.a.length) → (∃ t, τ = t + 1 ∧ bd.F s t + 1 = k * (p * bd.a.length) ∧ bd.fst (bd.go s t) = true) → bd.G s τ ≤ bd.G s τ1 + (k - 1) * (q * bd.b.length) := fun h0 k => by
    induction k with
    | zero => intro z; omega
    | succ k ih =>
      intro _ τ h1 h3
      rcases Nat.eq_zero_or_pos k with z | z
      · subst z
        have e5 : τ = τ1 := uniq 1 τ τ1 (by simpa using h1) (by simpa using h3) x1
        subst e5
        simp
      · obtain ⟨τ0, g1, g2, g3, g4⟩ := hA k
        have i1 := ih z τ0 g1 (g4 z)
        have i2 := dn h0 k τ0 τ g1 g2 h3
        have i3 : (k + 1 - 1) * (q * bd.b.length) = (k - 1) * (q * bd.b.length) + q * bd.b.length := by
          rw [← Nat.succ_mul]; congr 1; omega
        omega
  have hn : bd.F s n = d * (p * bd.a.length) := by rw [hp, Nat.mul_assoc]
  have hg : bd.G s n = d * (q * bd.b.length) := by rw [hq, Nat.mul_assoc]
  have hd : d * (q * bd.b.length) = q * bd.b.length + (d - 1) * (q * bd.b.length) := by
    rw [Nat.add_comm, ← Nat.succ_mul]; congr 1; omega
  have eq1 : bd.G s τ1 = q * bd.b.length := by
    rcases Nat.le_total (q * bd.b.length) (bd.G s τ1) with z | z
    · have := sumU (by omega) d d1 n hn atn; omega
    · have := sumD (by omega) d d1 n hn atn; omega
  -- it comes back behind τ1 ticks
  have back : bd.go s τ1 = s := by
    have e1 := Bd.go_i hok h2.ok τ1
    have e2 := Bd.go_j hok h2.ok τ1
    rw [f1, Nat.one_mul, Nat.add_mul_mod_self_right, Nat.mod_eq_of_lt h2.ok.1] at e1
    have e2 : (s.j + bd.G s τ1) % bd.b.length = (bd.go s τ1).j := e2
    rw [eq1, Nat.add_mul_mod_self_right, Nat.mod_eq_of_lt h2.ok.2] at e2
    generalize bd.go s τ1 = x at e1 e2 l1
    cases x; cases s
    simp only at e1 e2 l1 sf
    subst e1 e2 l1 sf; rfl
  have τp : 0 < τ1 := by obtain ⟨t, e, _⟩ := x1; omega
  have fin := h2.least τ1 τp back
  have hτ := Bd.FG bd s τ1
  have hnn := Bd.FG bd s n
  rw [f1, eq1, Nat.one_mul] at hτ
  rw [hn, hg] at hnn
  rcases Nat.lt_or_ge 1 d with z | z
  · have : 2 * (p * bd.a.length) ≤ d * (p * bd.a.length) := Nat.mul_le_mul_right _ z
    have : 2 * (q * bd.b.length) ≤ d * (q * bd.b.length) := Nat.mul_le_mul_right _ z
    omega
  · omega
/-- all trips are as long, and the first reader steps as often in each -/
theorem Bd.Trip.same (h : bd.Trip s n) (h' : bd.Trip u m) (hok : bd.ok) : n = m ∧ bd.F s n = bd.F u m := by
  have a1 := hok.a1
  have b1 := hok.b1
  rcases Nat.eq_zero_or_pos (bd.F s n) with z | z
  · have z' := h.zero_all hok z h'
    exact ⟨(h.zero hok z).trans (h'.zero hok z').symm, z.trans z'.symm⟩
  · rcases Nat.eq_zero_or_pos (bd.F u m) with z' | z'
    · have := h'.zero_all hok z' h; omega
    · obtain ⟨p, q, hp, hq⟩ := h.divs hok
      obtain ⟨p', q', hp', hq'⟩ := h'.divs hok
      have pos : ∀ {p A F : Nat}, 0 < F → F = p * A → 1 ≤ p := fun {p A F} h e => by
        rcases Nat.eq_zero_or_pos p with y | y
        · rw [y, Nat.zero_mul] at e; omega
        · exact y
      have p1 := pos z hp
      have p1' := pos z' hp'
      have sl := Bd.slope hok h h' hp hq hp' hq' p1 p1'
      have cop : ∀ {x : Sd} {k p q : Nat}, bd.Trip x k → 1 ≤ p → bd.F x k = p * bd.a.length → bd.G x k = q * bd.b.length → Nat.gcd p q = 1 := fun {x k p q} hx hp1 e1 e2 => by
        have g1 : 0 < Nat.gcd p q := Nat.gcd_pos_of_pos_left _ hp1
        obtain ⟨p0, ep⟩ := Nat.gcd_dvd_left p q
        obtain ⟨q0, eq⟩ := Nat.gcd_dvd_right p q
        have p01 : 1 ≤ p0 := by
          rcases Nat.eq_zero_or_pos p0 with y | y
          · rw [y, Nat.mul_zero] at ep; omega
          · exact y
        refine hx.cop hok (p := p0) (q := q0) p01 ?_ ?_ g1
        · rw [← ep]; exact e1
        · rw [← eq]; exact e2
      have c1 := cop h p1 hp hq
      have c2 := cop h' p1' hp' hq'
      have d1 : p ∣ p' := Nat.Coprime.dvd_of_dvd_mul_right (show Nat.Coprime p q from c1) ⟨q', sl⟩
      have d2 : p' ∣ p := Nat.Coprime.dvd_of_dvd_mul_right (show Nat.Coprime p' q' from c2) ⟨q, sl.symm⟩
      have ep := Nat.dvd_antisymm d1 d2
      subst ep
      have eq := Nat.eq_of_mul_eq_mul_left (by omega) sl
      subst eq
      have h1 := Bd.FG bd s n
      have h2 := Bd.FG bd u m
      exact ⟨by omega, by omega⟩
/-- the pace -/
theorem Bd.Trip.pace (h : bd.Trip s n) (hok : bd.ok) : ∃ p q, Nat.gcd p q = 1 ∧ bd.F s n = p * bd.a.length ∧ bd.G s n = q * bd.b.length := by
  have a1 := hok.a1
  have b1 := hok.b1
  obtain ⟨p, q, hp, hq⟩ := h.divs hok
  refine ⟨p, q, ?_, hp, hq⟩
  rcases Nat.eq_zero_or_pos p with y | y
  · rw [y, Nat.zero_mul] at hp
    have z := h.zero hok hp
    have hG := Bd.FG bd s n
    have : q = 1 := by
      have : q * bd.b.length = 1 * bd.b.length := by omega
      exact Nat.eq_of_mul_eq_mul_right (by omega) this
    rw [y, this]; rfl
  · have g1 : 0 < Nat.gcd p q := Nat.gcd_pos_of_pos_left _ y
    obtain ⟨p0, ep⟩ := Nat.gcd_dvd_left p q
    obtain ⟨q0, eq⟩ := Nat.gcd_dvd_right p q
    have p01 : 1 ≤ p0 := by
      rcases Nat.eq_zero_or_pos p0 with y | y
      · rw [y, Nat.mul_zero] at ep; omega
      · exact y
    refine h.cop hok (p := p0) (q := q0) p01 ?_ ?_ g1
    · rw [← ep]; exact hp
    · rw [← eq]; exact hq
end
end DL

set_option Elab.async false
set_option linter.all false
set_option maxRecDepth 100000
set_option maxHeartbeats 2000000
namespace DL
open PySem PySem.Spec L2
/-! ## locked dicts with tuple keys: read, walked -/
section
variable {X : Cx} {sl : Sl} {rs : List Res} {Q : EQ} {e : Expr} {r1 r2 : Rv} {k : Nat}
/-- a dict of ours comes to stay, locked -/
theorem ew_lock (h : EW X sl e rs fun r rs1 => ∃ k ds, r = .rf k ∧ rs1[k]? = some (.dT ds) ∧ Q (.sh (.dL ds)) (rs1.set k (.frz (.dL ds)))) : EW X sl e rs Q :=
  ⟨fun T σ H a b pins s I => thn (h.go T σ H a b pins s I) fun u s' ⟨v, H', I', rv, T', rs', r, l, R', p, k, ds, e1, e2, q⟩ => by
    subst e1
    obtain ⟨h1, kvs, h2, h3⟩ := R'.rs k _ e2
    have hk : k < rs'.length := (List.getElem?_eq_some_iff.mp e2).1
    obtain ⟨od, I2⟩ := I'.lock h2 trivial
    have d1 := (R'.dj _ _ h1).1
    have R2 := R'.write (p := T'.ad k) (o := .frz od (.dT kvs)) (k := k) (r' := .off) h1 trivial hk (fun _ z => nomatch z)
    obtain ⟨T2, l2, R3⟩ := R2.freezeO (k := k) (by rw [List.length_set]; exact hk) h1 upd_same (d := .dL ds) (.dL upd_same (h3.mono (.new d1)))
    rw [List.set_set] at R3
    refine ⟨v, _, I2, rv, T2, _, .sh (.dL ds), l.trans l2, R3, ?_, q⟩
    exact vw_sh R3 (List.getElem?_set_self hk) (p.le l2)⟩
theorem Vw.dLv {K : PySem.W.Frag} {T : Tw} {H : Hp} {v : V} {r : Rv} {ds : List (List Key × Da)} (w : Vw rs r (.dL ds)) (R : RepH K T rs H) (h : RpV K T v r) : ∃ a o kvs, v = .ref a ∧ T.H0 a = some (.frz o (.dT kvs)) ∧ RpT K T.H0 kvs ds := by
  cases w with
  | sh => cases h with | dL a b => exact ⟨_, _, _, rfl, a, b⟩
  | frz e =>
    obtain ⟨_, e2⟩ := h
    have q := R.rs _ _ e
    cases q with | dL a b => exact ⟨_, _, _, e2, a, b⟩
theorem DGet.l {H : Hp} {a b : Addr} {o : Obj} {kvs : List (List Key × V)} {k : List Key} (e : H a = some (.frz o (.dT kvs))) (eb : H b = some (.tup (k.map kV))) : DGet H a (.ref b) (valV kvs k) := .inr ⟨kvs, k, b, .inr ⟨o, e⟩, rfl, eb, rfl⟩
theorem bv_inL {kvs : List (List Key × Da)} {ks : List Da} {kk : List Key} {bb : Bool} (hu : Un X) (w : Vw rs r2 (.dL kvs)) (hk : keyDs ks = some kk) (hb : (valD kvs kk).isSome = bb) (q : Q (.sh (.bl bb)) rs) : BV X (compareOp .In) (.sh (.tup ks)) r2 rs Q :=
  ⟨fun T H v1 v2 R p1 p2 pins s σ u1 u2 I i1 i2 => by
    obtain ⟨ad, o, kv, e2, hd, rt⟩ := w.dLv R p2
    obtain ⟨p, e1, hp⟩ := key_at R p1 hk
    subst e1 e2
    cases i2
    have hu : X.A.units + 64 < cLine := hu
    refine d_in (by omega) I (DGet.l (R.h0 _ _ hd) hp) i1 fun s' I' => ⟨.bl (valV kv kk).isSome, H, I', rfl, ?_⟩
    rw [(rt.val kk).isSome, hb]
    exact epost R (r := .sh (.bl _)) (.bl _) q⟩
theorem bv_ninL {kvs : List (List Key × Da)} {ks : List Da} {kk : List Key} {bb : Bool} (hu : Un X) (w : Vw rs r2 (.dL kvs)) (hk : keyDs ks = some kk) (hb : (!(valD kvs kk).isSome) = bb) (q : Q (.sh (.bl bb)) rs) : BV X (compareOp .NotIn) (.sh (.tup ks)) r2 rs Q :=
  ⟨fun T H v1 v2 R p1 p2 pins s σ u1 u2 I i1 i2 => by
    obtain ⟨ad, o, kv, e2, hd, rt⟩ := w.dLv R p2
    obtain ⟨p, e1, hp⟩ := key_at R p1 hk
    subst e1 e2
    cases i2
    have hu : X.A.units + 64 < cLine := hu
    refine d_notIn (by omega) I (DGet.l (R.h0 _ _ hd) hp) i1 fun s' I' => ⟨.bl (!(valV kv kk).isSome), H, I', rfl, ?_⟩
    rw [(rt.val kk).isSome, hb]
    exact epost R (r := .sh (.bl _)) (.bl _) q⟩
theorem xv_dL {kvs : List (List Key × Da)} {ks : List Da} {kk : List Key} {d : Da} (hu : Un X) (w : Vw rs r1 (.dL kvs)) (hk : keyDs ks = some kk) (hv : valD kvs kk = some d) (q : Q (.sh d) rs) : XV X r1 (.sh (.tup ks)) rs Q := ⟨fun T H v1 v2 R p1 p2 => by
  refine xvS.of (ix_dict (by have := hu; unfold Un at this; omega)) ?_
  obtain ⟨ad, o, kv, e2, hd, rt⟩ := w.dLv R p1
  obtain ⟨p, e1, hp⟩ := key_at R p2 hk
  obtain ⟨v, ev, rv⟩ := (rt.val kk).some_of hv
  subst e1 e2
  have g := DGet.l (k := kk) (R.h0 _ _ hd) hp
  rw [ev] at g
  exact ⟨ad, v, rfl, g, epost R (r := .sh d) rv q⟩⟩
theorem cv_listL (hc : X.calm = true) {kvs : List (List Key × Da)} (w : Vw rs r1 (.dL kvs)) (q : Q (.sh (.lst (kvs.map fun p => .tup (p.1.map kD)))) rs) : CV X (.type "list") [r1] rs Q :=
  cv_of (call_list_dT hc) fun T H vs R pp => by
    obtain ⟨v, rfl, p⟩ := rp1 pp
    obtain ⟨a, o, kv, e, hd, rt⟩ := w.dLv R p
    subst e
    refine ⟨a, kv, rfl, .inr ⟨o, R.h0 _ _ hd⟩, fun p bs hp hk => ?_⟩
    have rk := keysL R.tu rt hk
    obtain ⟨R2, l2⟩ := R.share (o := .lst (bs.map V.ref)) hp
    exact ⟨_, rs, .sh (.lst _), l2, R2, .lst upd_same (rk.mono l2.h0), q⟩
theorem RpT.get {K : PySem.W.Frag} {H : Hp} : ∀ {kvs : List (List Key × V)} {ds : List (List Key × Da)} {i : Nat} {k : List Key} {v : V}, RpT K H kvs ds → kvs[i]? = some (k, v) → ∃ d, ds[i]? = some (k, d)
  | _, _, _, _, _, .nil, e => by simp at e
  | _, _, 0, _, _, .cons _ _, e => by cases e; exact ⟨_, rfl⟩
  | _, _, i + 1, k, v, .cons _ t, e => RpT.get (i := i) t (by simpa using e)
/-- for k in d -/
theorem iw_dL {tg : Expr} {Q : IQ} (h : EW X sl e rs fun r rs1 => ∃ kvs, r = .sh (.dL kvs) ∧ Q (kvs.map fun p => tK p.1) rs1) : IW X sl tg e rs Q :=
  iw_of (pi_keys pe_S) fun T σ H hR S => then1 h hR S fun T1 rs1 r v H1 l R1 p ⟨kvs, e, q⟩ => by
    subst e
    cases p with
    | dL hd rt =>
      rename_i a o kv
      have hl := rt.len
      refine ⟨a, o, rfl, .inr ⟨kv, R1.h0 _ _ hd, T1, rs1, _, l, R1, ⟨fun T' rs' H' l' R' => ?_, fun i T' rs' H' hi l' R' => ?_, fun i d T' rs' H' x H'' hd' l' R' y => ?_⟩, q⟩⟩
      · exact ⟨R'.h0 _ _ (l'.h0 _ _ hd), by rw [List.length_map]; omega⟩
      · exact ⟨R'.h0 _ _ (l'.h0 _ _ hd), by rw [List.length_map] at hi; omega⟩
      · obtain ⟨e1, k, v, p, e2, e3, e4⟩ := y
        subst e1 e3
        obtain ⟨d2, e5⟩ := rt.get e2
        rw [List.getElem?_map, e5] at hd'
        cases hd'
        exact ⟨T', .refl _, R', .tup (R'.tu _ _ e4) (rps_keys k)⟩
end
end DL

set_option Elab.async false
set_option linter.all false
set_option maxRecDepth 100000
set_option maxHeartbeats 2000000
namespace DL
open PySem PySem.Spec L2
/-! ## rings of keys -/
instance (priority := 100000) beqKs : BEq (List Key) := instBEqOfDecidableEq
def pK : Key → PyData
  | .inl i => .int i | .inr x => .str x
theorem pDs_kD : ∀ ks : List Key, pDs (ks.map kD) = ks.map pK
  | [] => rfl
  | .inl i :: r => by rw [List.map_cons, pDs, pDs_kD r]; rfl
  | .inr x :: r => by rw [List.map_cons, pDs, pDs_kD r]; rfl
theorem pD_tK (ks : List Key) : pD (tK ks) = .tuple (ks.map pK) := by
  show PyData.tuple (pDs (ks.map kD)) = _
  rw [pDs_kD]
theorem pK_inj : ∀ {a b : Key}, pK a = pK b → a = b
  | .inl _, .inl _, h => by cases h; rfl
  | .inr _, .inr _, h => by cases h; rfl
  | .inl _, .inr _, h => nomatch h
  | .inr _, .inl _, h => nomatch h
theorem pKs_inj : ∀ {a b : List Key}, a.map pK = b.map pK → a = b
  | [], [], _ => rfl
  | [], _ :: _, h => by cases h
  | _ :: _, [], h => by cases h
  | a :: as, b :: bs, h => by
    simp only [List.map_cons, List.cons.injEq] at h
    rw [pK_inj h.1, pKs_inj h.2]
theorem pD_tK_inj {a b : List Key} (h : pD (tK a) = pD (tK b)) : a = b := by
  rw [pD_tK, pD_tK] at h
  injection h with h
  exact pKs_inj h
theorem plains_kD : ∀ ks : List Key, plains (ks.map kD) = true
  | [] => rfl
  | .inl i :: r => by rw [List.map_cons, plains, plains_kD r]; rfl
  | .inr x :: r => by rw [List.map_cons, plains, plains_kD r]; rfl
theorem plain_tK (ks : List Key) : plain (tK ks) = true := plains_kD ks
theorem plains_tKs (c : List (List Key)) : plains (c.map tK) = true := plains_of fun d hd => by
  obtain ⟨k, _, rfl⟩ := List.mem_map.mp hd
  exact plain_tK k
theorem alike_pK : ∀ {a b : List Key}, a.map isTx = b.map isTx → PySem.W.alikeAll (a.map pK) (b.map pK) = true
  | [], _, _ => by simp [PySem.W.alikeAll]
  | _ :: _, [], _ => by simp [PySem.W.alikeAll]
  | .inl _ :: as, .inl _ :: bs, h => by
    simp only [List.map_cons, List.cons.injEq] at h
    simp only [List.map_cons, pK, PySem.W.alikeAll, PySem.W.alike, alike_pK h.2, Bool.and_self]
  | .inr _ :: as, .inr _ :: bs, h => by
    simp only [List.map_cons, List.cons.injEq] at h
    simp only [List.map_cons, pK, PySem.W.alikeAll, PySem.W.alike, alike_pK h.2, Bool.and_self]
  | .inl _ :: as, .inr _ :: bs, h => by simp [isTx] at h
  | .inr _ :: as, .inl _ :: bs, h => by simp [isTx] at h
theorem alike_tK {a b : List Key} (h : a.map isTx = b.map isTx) : PySem.W.alike (pD (tK a)) (pD (tK b)) = true := by
  rw [pD_tK, pD_tK, PySem.W.alike]; exact alike_pK h
theorem depth_pK : ∀ ks : List Key, PyData.depthAll (ks.map pK) = 0
  | [] => by simp [PyData.depthAll]
  | .inl i :: r => by rw [List.map_cons, PyData.depthAll, depth_pK r]; simp [pK, PyData.depth]
  | .inr x :: r => by rw [List.map_cons, PyData.depthAll, depth_pK r]; simp [pK, PyData.depth]
theorem depth_tK (ks : List Key) : (pD (tK ks)).depth ≤ 1 := by
  rw [pD_tK, PyData.depth, depth_pK]; omega
theorem depthAll_le {n : Nat} : ∀ {xs : List PyData}, (∀ x ∈ xs, x.depth ≤ n) → PyData.depthAll xs ≤ n
  | [], _ => by simp [PyData.depthAll]
  | x :: xs, h => by
    rw [PyData.depthAll]
    exact Nat.max_le.mpr ⟨h x List.mem_cons_self, depthAll_le fun y hy => h y (List.mem_cons_of_mem _ hy)⟩
/-- all are of one shape -/
def ShK (sh : List Bool) (c : List (List Key)) : Prop := ∀ k ∈ c, k.map isTx = sh
def ringD (c : List (List Key)) : Da := .lst (c.map tK)
theorem pD_ring (c : List (List Key)) : pD (ringD c) = .list (c.map fun k => pD (tK k)) := by
  show PyData.list (pDs (c.map tK)) = _
  rw [pDs_map, List.map_map]; rfl
theorem alike_ring {sh : List Bool} : ∀ {c d : List (List Key)}, ShK sh c → ShK sh d → PySem.W.alikeAll (c.map fun k => pD (tK k)) (d.map fun k => pD (tK k)) = true
  | [], _, _, _ => by simp [PySem.W.alikeAll]
  | _ :: _, [], _, _ => by simp [PySem.W.alikeAll]
  | k :: c, l :: d, h, h' => by
    rw [List.map_cons, List.map_cons, PySem.W.alikeAll, alike_ring (fun k hk => h k (List.mem_cons_of_mem _ hk)) (fun k hk => h' k (List.mem_cons_of_mem _ hk)), alike_tK ((h k List.mem_cons_self).trans (h' l List.mem_cons_self).symm)]
    rfl
section
open Classical
/-- where the least thing of a ring stands first -/
noncomputable def leastAt : List (List Key) → Nat
  | [] => 0
  | k :: r => (k :: r).findIdx fun z => decide (pD (tK z) = PySem.W.minD (pD (tK k)) (pDs (r.map tK)))
noncomputable def leastK (c : List (List Key)) : List (List Key) := c.drop (leastAt c) ++ c.take (leastAt c)
theorem leastAt_lt {c : List (List Key)} (h : c ≠ []) : leastAt c < c.length := by
  cases c with
  | nil => exact absurd rfl h
  | cons k r =>
    unfold leastAt
    refine List.findIdx_lt_length_of_exists ?_
    have hm := minD_mem (pDs (r.map tK)) (pD (tK k))
    rw [pDs_map, List.map_map] at hm
    rcases List.mem_cons.mp hm with e | e
    · refine ⟨k, List.mem_cons_self, decide_eq_true ?_⟩
      rw [pDs_map, List.map_map]; exact e.symm
    · obtain ⟨z, hz, ez⟩ := List.mem_map.mp e
      refine ⟨z, List.mem_cons_of_mem _ hz, decide_eq_true ?_⟩
      rw [pDs_map, List.map_map]; exact ez
theorem leastK_turns : Turns leastK := ⟨fun c h => ⟨leastAt c, leastAt_lt h, rfl⟩⟩
theorem leastAt_of {k : List Key} {r : List (List Key)} {z : List Key} (hz : z ∈ k :: r) (hm : pD (tK z) = PySem.W.minD (pD (tK k)) (pDs (r.map tK))) : (k :: r)[leastAt (k :: r)]? = some z ∧ ∀ i, i < leastAt (k :: r) → (k :: r)[i]? ≠ some z := by
  have hl := leastAt_lt (c := k :: r) (fun z => nomatch z)
  constructor
  · have h1 : decide (pD (tK ((k :: r)[leastAt (k :: r)])) = PySem.W.minD (pD (tK k)) (pDs (r.map tK))) = true := List.findIdx_getElem (w := hl)
    rw [List.getElem?_eq_getElem hl]
    congr 1
    exact pD_tK_inj ((of_decide_eq_true h1).trans hm.symm)
  · intro i hi e
    have hil : i < (k :: r).length := Nat.lt_trans hi hl
    have h1 : decide (pD (tK ((k :: r)[i])) = PySem.W.minD (pD (tK k)) (pDs (r.map tK))) = false := by
      have := List.not_of_lt_findIdx (p := fun z => decide (pD (tK z) = PySem.W.minD (pD (tK k)) (pDs (r.map tK)))) (xs := k :: r) (i := i) hi
      simpa using this
    rw [List.getElem?_eq_getElem hil] at e
    have e := Option.some.inj e
    rw [e] at h1
    exact of_decide_eq_false h1 hm
end
/-- rings in order -/
def sortR (L : List (List (List Key))) : List (List (List Key)) := L.mergeSort fun a b => PySem.W.dataLe false pD (ringD a) (ringD b)
theorem sortR_eq (L : List (List (List Key))) : sortP (L.map ringD) = (sortR L).map ringD := by
  unfold sortP sortR
  exact (List.map_mergeSort (r := fun a b => PySem.W.dataLe false pD (ringD a) (ringD b)) (s := PySem.W.dataLe false pD) (f := ringD) (l := L) (fun a _ b _ => rfl)).symm
theorem sortR_perm (L : List (List (List Key))) : (sortR L).Perm L := List.mergeSort_perm _ _
noncomputable def ringsK (f : List Key → List Key) (ks : List (List Key)) : List (List (List Key)) := sortR (allR f leastK ks ks.length).2
theorem ringsK_rgs {ks : List (List Key)} {f : List Key → List Key} (hf : ∀ k ∈ ks, f k ∈ ks) : Rgs ks f (ringsK f ks) := (allR_rgs hf leastK_turns).perm (sortR_perm _)
/-! ### the dict of what leads on to what -/
def kvL (f : List Key → List Key) (ks : List (List Key)) : List (List Key × Da) := ks.map fun k => (k, tK (f k))
theorem kvL_get {f : List Key → List Key} {k : List Key} : ∀ {ks : List (List Key)}, k ∈ ks → valD (kvL f ks) k = some (tK (f k))
  | l :: ks, h => by
    by_cases e : l = k
    · subst e; exact valD_pos (p := (l, tK (f l))) rfl
    · rw [show kvL f (l :: ks) = (l, tK (f l)) :: kvL f ks from rfl, valD_neg (p := (l, tK (f l))) e]
      exact kvL_get ((List.mem_cons.mp h).resolve_left fun z => e z.symm)
structure LeadOk (f : List Key → List Key) (ks : List (List Key)) : Prop where
  nd : ks.Nodup
  cl : ∀ k ∈ ks, f k ∈ ks
  sh : ∃ b r, ShK (b :: r) ks
  ok : ∀ k ∈ ks, okK k = true
  len : ks.length ≤ 90000
/-! ### dicts under way -/
def kvS (V : List (List Key)) : List (List Key × Da) := V.map fun k => (k, .bl true)
theorem kvS_val {k : List Key} : ∀ {V : List (List Key)}, (valD (kvS V) k).isSome = decide (k ∈ V)
  | [] => by simp [kvS, valD]
  | l :: V => by
    by_cases e : l = k
    · rw [show kvS (l :: V) = (l, .bl true) :: kvS V from rfl, valD_pos (p := (l, Da.bl true)) e]
      simp [e]
    · rw [show kvS (l :: V) = (l, .bl true) :: kvS V from rfl, valD_neg (p := (l, Da.bl true)) e, kvS_val]
      have : k ≠ l := fun z => e z.symm
      simp [this]
def kvI (P : List (List Key)) (n : Nat) : List (List Key × Da) := (P.zipIdx n).map fun p => (p.1, .int (p.2 : Nat))
theorem kvI_cons (k : List Key) (P : List (List Key)) (n : Nat) : kvI (k :: P) n = (k, .int (n : Nat)) :: kvI P (n + 1) := rfl
theorem kvI_snoc (k : List Key) : ∀ (P : List (List Key)) (n : Nat), kvI (P ++ [k]) n = kvI P n ++ [(k, .int ((n + P.length : Nat)))]
  | [], n => rfl
  | l :: P, n => by
    rw [List.cons_append, kvI_cons, kvI_cons, kvI_snoc k P (n + 1), List.cons_append, List.length_cons]
    rw [show n + 1 + P.length = n + (P.length + 1) by omega]
theorem kvI_in {k : List Key} : ∀ {P : List (List Key)} {n : Nat}, k ∈ P → valD (kvI P n) k = some (.int ((n + P.idxOf k : Nat)))
  | l :: P, n, h => by
    rw [kvI_cons]
    by_cases e : l = k
    · subst e
      rw [valD_pos (p := (l, Da.int (n : Nat))) rfl, List.idxOf_cons_self]; rfl
    · rw [valD_neg (p := (l, Da.int (n : Nat))) e, kvI_in (n := n + 1) ((List.mem_cons.mp h).resolve_left fun z => e z.symm), List.idxOf_cons, show (l == k) = false by simpa using e, cond_false]
      rw [show n + 1 + P.idxOf k = n + (P.idxOf k + 1) by omega]
theorem kvI_out {k : List Key} : ∀ {P : List (List Key)} {n : Nat}, k ∉ P → valD (kvI P n) k = none
  | [], _, _ => rfl
  | l :: P, n, h => by
    rw [kvI_cons, valD_neg (p := (l, Da.int (n : Nat))) (fun e => h (by rw [show l = k from e]; exact List.mem_cons_self)), kvI_out fun z => h (List.mem_cons_of_mem _ z)]
theorem kvI_keys : ∀ (P : List (List Key)) (n : Nat), ((kvI P n).map fun p => Da.tup (p.1.map kD)) = P.map tK
  | [], _ => rfl
  | l :: P, n => by rw [kvI_cons, List.map_cons, kvI_keys P (n + 1)]; rfl
theorem kvI_len (P : List (List Key)) (n : Nat) : (kvI P n).length = P.length := by unfold kvI; rw [List.length_map, List.length_zipIdx]
theorem kvI_isSome {k : List Key} {P : List (List Key)} : (valD (kvI P 0) k).isSome = decide (k ∈ P) := by
  by_cases h : k ∈ P
  · rw [kvI_in h]; simp [h]
  · rw [kvI_out h]; simp [h]
end DL

set_option Elab.async false
set_option linter.all false
set_option maxRecDepth 100000
set_option maxHeartbeats 1000000
namespace DL
open PySem PySem.Spec L2
theorem cutD_from {ds : List Da} {n : Nat} (h : n ≤ ds.length) : cutD ds (some (n : Int)) none = ds.drop n := by
  have e : HT.sIx ds.length 0 (some (n : Int)) = n := by unfold HT.sIx; show (if (n : Int) < 0 then _ else _) = n; rw [if_neg (by omega)]; show min (n : Int).toNat ds.length = n; omega
  have e2 : HT.sIx ds.length ds.length none = ds.length := rfl
  unfold cutD
  rw [e, e2, List.take_of_length_le (by rw [List.length_drop]; exact Nat.le_refl _)]
theorem cutD_to {ds : List Da} {n : Nat} (h : n ≤ ds.length) : cutD ds none (some (n : Int)) = ds.take n := by
  have e : HT.sIx ds.length ds.length (some (n : Int)) = n := by unfold HT.sIx; show (if (n : Int) < 0 then _ else _) = n; rw [if_neg (by omega)]; show min (n : Int).toNat ds.length = n; omega
  have e2 : HT.sIx ds.length 0 none = 0 := rfl
  unfold cutD
  rw [e, e2, List.drop_zero, Nat.sub_zero]
theorem alikeAll_tK {b : Bool} {r : List Bool} {k : List Key} {c : List (List Key)} (h : ShK (b :: r) (k :: c)) : PySem.W.AlikeAll (pD (tK k) :: pDs (c.map tK)) := by
  have e : pD (tK k) :: pDs (c.map tK) = (k :: c).map fun z => pD (tK z) := by rw [pDs_map, List.map_map]; rfl
  rw [e]
  refine ⟨fun x hx y hy => ?_, fun x hx => ?_⟩
  · obtain ⟨a, ha, rfl⟩ := List.mem_map.mp hx
    obtain ⟨b', hb, rfl⟩ := List.mem_map.mp hy
    exact alike_tK ((h a ha).trans (h b' hb).symm)
  · obtain ⟨a, ha, rfl⟩ := List.mem_map.mp hx
    rw [pD_tK]; exact fun z => nomatch z
theorem depth_tKs (k : List Key) (c : List (List Key)) : PyData.depthAll (pD (tK k) :: pDs (c.map tK)) ≤ 20 := by
  have e : pD (tK k) :: pDs (c.map tK) = (k :: c).map fun z => pD (tK z) := by rw [pDs_map, List.map_map]; rfl
  rw [e]
  refine depthAll_le fun x hx => ?_
  obtain ⟨a, ha, rfl⟩ := List.mem_map.mp hx
  have := depth_tK a; omega
theorem plains_rings (L : List (List (List Key))) : plains (L.map ringD) = true := plains_of fun d hd => by
  obtain ⟨c, _, rfl⟩ := List.mem_map.mp hd
  exact plains_tKs c
theorem alike_rings {sh : List Bool} {L : List (List (List Key))} (h : ∀ c ∈ L, ShK sh c) : PySem.W.AllAlike ((L.map ringD).map pD) := by
  intro x hx y hy
  rw [List.map_map] at hx hy
  obtain ⟨a, ha, rfl⟩ := List.mem_map.mp hx
  obtain ⟨b, hb, rfl⟩ := List.mem_map.mp hy
  show PySem.W.alike (pD (ringD a)) (pD (ringD b)) = true
  rw [pD_ring, pD_ring, PySem.W.alike]
  exact alike_ring (h a ha) (h b hb)
theorem sortable_rings (L : List (List (List Key))) : PySem.W.Sortable ((L.map ringD).map pD) := by
  rw [List.map_map]
  exact .others fun b => ⟨by show pD (ringD b) ≠ _; rw [pD_ring]; exact (fun z => nomatch z), fun xs => by show pD (ringD b) ≠ _; rw [pD_ring]; exact fun z => nomatch z⟩
theorem depth_rings (L : List (List (List Key))) : PyData.depthAll (pDs (L.map ringD)) ≤ 20 := by
  rw [pDs_map, List.map_map]
  refine depthAll_le fun x hx => ?_
  obtain ⟨c, _, rfl⟩ := List.mem_map.mp hx
  show (pD (ringD c)).depth ≤ 20
  rw [pD_ring, PyData.depth]
  have : PyData.depthAll (c.map fun k => pD (tK k)) ≤ 1 := depthAll_le fun y hy => by
    obtain ⟨a, _, rfl⟩ := List.mem_map.mp hy
    exact depth_tK a
  omega
theorem ringD_eq (c : List (List Key)) : (c.drop (leastAt c)).map tK ++ (c.take (leastAt c)).map tK = (leastK c).map tK := by
  unfold leastK; rw [List.map_append]
end DL

set_option Elab.async false
set_option linter.all false
set_option maxRecDepth 100000
set_option maxHeartbeats 4000000
namespace DL
open PySem PySem.Spec L2
open PyProof.Rows hiding St
/-! ## dict comprehensions of two clauses with tuple keys -/
theorem compTurn2D_out (kx vx t0 i0 t1 i1 : Expr) (ifs0 ifs1 : List Expr) (scope : Scope) (pos : Pos) (it : Value) (D : Addr) (env : Env) :
    compTurn (.DictComp kx vx [⟨t0, i0, ifs0, 0⟩, ⟨t1, i1, ifs1, 0⟩] scope pos) 0 it (.ref D) env = (do
      standAt i0.pos
      match ← pyNext it with
      | none => pure (.done .next)
      | some v =>
        letOwnedTupleGo t0 it v
        assign t0 env v
        let mut ok := true
        for c in ifs0 do
          if ok then ok ← isTrue c env (eval c env)
        if ok then
          let x ← eval i1 env
          standAt i1.pos
          let x ← foldedSetIterable i1 env x
          let _ ← runOwn (.compStart (.DictComp kx vx [⟨t0, i0, ifs0, 0⟩, ⟨t1, i1, ifs1, 0⟩] scope pos) 1 (← holding [x] (pyIter x)) (.ref D) env) env
        again (.compLoop (.DictComp kx vx [⟨t0, i0, ifs0, 0⟩, ⟨t1, i1, ifs1, 0⟩] scope pos) 0 it (.ref D) env)) := by rfl
theorem compTurn2D_in (kx vx t0 i0 t1 i1 : Expr) (ifs0 ifs1 : List Expr) (scope : Scope) (pos : Pos) (it : Value) (D : Addr) (env : Env) :
    compTurn (.DictComp kx vx [⟨t0, i0, ifs0, 0⟩, ⟨t1, i1, ifs1, 0⟩] scope pos) 1 it (.ref D) env = (do
      standAt i1.pos
      match ← pyNext it with
      | none => pure (.done .next)
      | some v =>
        letOwnedTupleGo t1 it v
        assign t1 env v
        let mut ok := true
        for c in ifs1 do
          if ok then ok ← isTrue c env (eval c env)
        if ok then
          (do
            let kv ← eval kx env
            let vv ← holding [kv] (eval vx env)
            standAt { kx.pos with endLine := vx.pos.endLine, endCol := vx.pos.endCol }
            holding [kv, vv] (dictSet D kv vv))
        again (.compLoop (.DictComp kx vx [⟨t0, i0, ifs0, 0⟩, ⟨t1, i1, ifs1, 0⟩] scope pos) 1 it (.ref D) env)) := by rfl

section
variable {prog : Program} {w : World} {A : Around} {R : Result → Shared → Prop} {s : Shared} {kx vx t0 i0 t1 i1 : Expr} {ifs0 ifs1 : List Expr} {scope : Scope} {pos : Pos} {it : Value} {D : Addr} {env : Env}
/-- the loop of the first clause -/
theorem compLoop2D_out (hs : ∀ x, foldedSetIterable i1 env x = pure x) (I : Nat → Shared → Prop)
    (turn : ∀ n s, I n s → wpAny (model prog w) A (pyNext it) (fun r s₁ => match r with
      | none => R (.ok .next) s₁
      | some v => wpAny (model prog w) A (letOwnedTupleGo t0 it v) (fun _ s₁' => wpAny (model prog w) A (assign t0 env v) (fun _ s₂ =>
          wpAny (model prog w) A (forIn ifs0 true fun c r => if r = true then do let ok ← isTrue c env (eval c env); pure (ForInStep.yield ok) else pure (ForInStep.yield r)) (fun ok s₃ =>
            if ok = true then wpAny (model prog w) A (eval i1 env) (fun x s₄ => wpAny (model prog w) A (pyIter x) (fun it1 s₅ =>
              codeAny (model prog w) A (.compStart (.DictComp kx vx [⟨t0, i0, ifs0, 0⟩, ⟨t1, i1, ifs1, 0⟩] scope pos) 1 it1 (.ref D) env) (fun r s' => match r with
                | .ok _ => ∃ m, m < n ∧ I m s'
                | .error _ => False) s₅) (notedBy (model prog w) A env fun e s' => R (.error e) s') s₄) (notedBy (model prog w) A env fun e s' => R (.error e) s') s₃
            else ∃ m, m < n ∧ I m s₃) (notedBy (model prog w) A env fun e s' => R (.error e) s') s₂) (notedBy (model prog w) A env fun e s' => R (.error e) s') s₁') (notedBy (model prog w) A env fun e s' => R (.error e) s') s₁) (notedBy (model prog w) A env fun e s' => R (.error e) s') s)
    (n : Nat) (h : I n s) :
    codeAny (model prog w) A (.compLoop (.DictComp kx vx [⟨t0, i0, ifs0, 0⟩, ⟨t1, i1, ifs1, 0⟩] scope pos) 0 it (.ref D) env) R s := by
  refine codeAny_loop rfl I (fun n s hI => ?_) n h
  show wpAny _ A ((compTurn (.DictComp kx vx [⟨t0, i0, ifs0, 0⟩, ⟨t1, i1, ifs1, 0⟩] scope pos) 0 it (.ref D) env).onRaise (fun x => do noteFrame x env; theTreesLotGoes x)) _ _ s
  refine wpAny_noted ?_
  rw [compTurn2D_out]
  refine wpAny_bind (wpAny_standAt (wpAny_bind (wpAny_mono (turn n s hI) (fun r s₁ h₁ => ?_) fun _ _ h' => h')))
  cases r with
  | none => exact wpAny_pure h₁
  | some v =>
    refine wpAny_bind (wpAny_mono h₁ (fun _ s₁' h₁' => ?_) fun _ _ h' => h')
    refine wpAny_bind (wpAny_mono h₁' (fun _ s₂ h₂ => wpAny_bind (wpAny_mono h₂ (fun ok s₃ h₃ => ?_) fun _ _ h' => h')) fun _ _ h' => h')
    cases ok with
    | false => exact wpAny_pure ⟨rfl, h₃⟩
    | true =>
      refine wpAny_bind (wpAny_mono h₃ (fun x s₄ h₄ => ?_) fun _ _ h' => h')
      refine wpAny_bind (wpAny_standAt (wpAny_bind (wpAny_of_eq (hs x) (wpAny_bind (wpAny_holding (wpAny_mono h₄ (fun it1 s₅ h₅ => ?_) fun _ _ h' => h'))))))
      refine wpAny_bind (wpAny_runOwn ?_)
      rw [Around.mark_none]
      refine codeAny_mono h₅ fun r s' hr => ?_
      cases r with
      | ok f =>
        first
          | exact wpAny_pure ⟨rfl, hr⟩
          | exact wpAny_bind (wpAny_pure (wpAny_pure ⟨rfl, hr⟩))
      | error e => exact hr.elim
/-- the loop of the second -/
theorem compLoop2D_in (I : Nat → Shared → Prop)
    (turn : ∀ n s, I n s → wpAny (model prog w) A (pyNext it) (fun r s₁ => match r with
      | none => R (.ok .next) s₁
      | some v => wpAny (model prog w) A (letOwnedTupleGo t1 it v) (fun _ s₁' => wpAny (model prog w) A (assign t1 env v) (fun _ s₂ =>
          wpAny (model prog w) A (forIn ifs1 true fun c r => if r = true then do let ok ← isTrue c env (eval c env); pure (ForInStep.yield ok) else pure (ForInStep.yield r)) (fun ok s₃ =>
            if ok = true then wpAny (model prog w) A (eval kx env) (fun kv s₄ => wpAny (model prog w) A (eval vx env) (fun vv s₅ =>
              wpAny (model prog w) A (dictSet D kv vv) (fun _ s₆ => ∃ m, m < n ∧ I m s₆) (notedBy (model prog w) A env fun e s' => R (.error e) s') s₅) (notedBy (model prog w) A env fun e s' => R (.error e) s') s₄) (notedBy (model prog w) A env fun e s' => R (.error e) s') s₃
            else ∃ m, m < n ∧ I m s₃) (notedBy (model prog w) A env fun e s' => R (.error e) s') s₂) (notedBy (model prog w) A env fun e s' => R (.error e) s') s₁') (notedBy (model prog w) A env fun e s' => R (.error e) s') s₁) (notedBy (model prog w) A env fun e s' => R (.error e) s') s)
    (n : Nat) (h : I n s) :
    codeAny (model prog w) A (.compLoop (.DictComp kx vx [⟨t0, i0, ifs0, 0⟩, ⟨t1, i1, ifs1, 0⟩] scope pos) 1 it (.ref D) env) R s := by
  refine codeAny_loop rfl I (fun n s hI => ?_) n h
  show wpAny _ A ((compTurn (.DictComp kx vx [⟨t0, i0, ifs0, 0⟩, ⟨t1, i1, ifs1, 0⟩] scope pos) 1 it (.ref D) env).onRaise (fun x => do noteFrame x env; theTreesLotGoes x)) _ _ s
  refine wpAny_noted ?_
  rw [compTurn2D_in]
  refine wpAny_bind (wpAny_standAt (wpAny_bind (wpAny_mono (turn n s hI) (fun r s₁ h₁ => ?_) fun _ _ h' => h')))
  cases r with
  | none => exact wpAny_pure h₁
  | some v =>
    refine wpAny_bind (wpAny_mono h₁ (fun _ s₁' h₁' => ?_) fun _ _ h' => h')
    refine wpAny_bind (wpAny_mono h₁' (fun _ s₂ h₂ => wpAny_bind (wpAny_mono h₂ (fun ok s₃ h₃ => ?_) fun _ _ h' => h')) fun _ _ h' => h')
    cases ok with
    | false => exact wpAny_pure ⟨rfl, h₃⟩
    | true =>
      exact wpAny_bind (wpAny_bind (wpAny_mono h₃ (fun kv s₄ h₄ => wpAny_bind (wpAny_holding (wpAny_mono h₄ (fun vv s₅ h₅ => wpAny_bind (wpAny_standAt (wpAny_holding (wpAny_mono h₅ (fun _ s₆ h₆ => wpAny_pure ⟨rfl, h₆⟩) fun _ _ h' => h')))) fun _ _ h' => h'))) fun _ _ h' => h'))
/-- the second clause's start -/
theorem compStart1D_ok (h0 : codeAny (model prog w) A (.compLoop (.DictComp kx vx [⟨t0, i0, ifs0, 0⟩, ⟨t1, i1, ifs1, 0⟩] scope pos) 1 it (.ref D) env) R s)
    (h : wpAny (model prog w) A (pyIter it) (fun it' s' => codeAny (model prog w) A (.compLoop (.DictComp kx vx [⟨t0, i0, ifs0, 0⟩, ⟨t1, i1, ifs1, 0⟩] scope pos) 1 it' (.ref D) env) R s')
      (notedBy (model prog w) A env fun x s' => R (.error x) s') s) :
    codeAny (model prog w) A (.compStart (.DictComp kx vx [⟨t0, i0, ifs0, 0⟩, ⟨t1, i1, ifs1, 0⟩] scope pos) 1 it (.ref D) env) R s := by
  refine codeAny_of_tree ?_
  show wpAny _ _ ((compStart (.DictComp kx vx [⟨t0, i0, ifs0, 0⟩, ⟨t1, i1, ifs1, 0⟩] scope pos) 1 it (.ref D) env).onRaise (fun x => do noteFrame x env; standAt theWindowsPlace)) _ _ s
  refine wpAny_notedAt ?_
  unfold compStart
  show wpAny _ _ (ask >>= _) _ _ s
  refine wpAny_bind (wpAny_askSetting (wpAny_ite ?_))
  split
  · first
      | exact wpAny_bind (wpAny_pure (wpAny_pure (And.intro rfl h0)))
      | exact wpAny_pure (And.intro rfl h0)
  · first
      | exact wpAny_bind (wpAny_rule (wpAny_bind (wpAny_standAt (wpAny_bind (wpAny_mono h (fun it' s' h' => wpAny_pure (And.intro rfl h')) fun _ _ x => x)))))
      | (refine wpAny_bind (wpAny_rule ?_); show wpAny _ _ (standAt i1.pos >>= _) _ _ s; exact wpAny_bind (wpAny_standAt (wpAny_bind (wpAny_mono h (fun it' s' h' => wpAny_pure (And.intro rfl h')) fun _ _ x => x))))
end

section
variable {X : Cx}
/-- [elt for tg in iter if .. for tg1 in iter1 if ..]: behind the first clause's store and tests the second source's own loop, from which Nx is reached. vs: the block's names; vs1: those of the second target -/
def tDc2 (wi : TI) (g : TG) (tt : TT) (wi1 : TI) (g1 : TG) (tt1 : TT) (tk tv : TE) (vs vs1 : List Nat) : TE := fun σ H Q => wi σ H fun J H1 => ∀ D, H1 D = none → ∃ W : Nat → Nat → Hp → Prop, (∃ m, W 0 m (upd H1 D (.dT []))) ∧ ∀ i m H, W i m H →
  (J.stop i H ∧ Q (.ref D) H) ∨ (J.go i H ∧ ∃ Nx : Hp → Prop, (∀ H', Nx H' → ∃ m', m' < m ∧ W (i + 1) m' H') ∧ ∀ x H', J.yld i H x H' → g x (wipe σ vs) H' fun σ2 H2 => wipe σ2 vs = wipe σ vs ∧ tt σ2 H2 fun b H3 =>
    if b = true then wi1 σ2 H3 fun J1 H4 => ∃ W1 : Nat → Nat → Hp → Prop, (∃ m, W1 0 m H4) ∧ ∀ j k H, W1 j k H →
      (J1.stop j H ∧ Nx H) ∨ (J1.go j H ∧ ∃ Nx1 : Hp → Prop, (∀ H', Nx1 H' → ∃ k', k' < k ∧ W1 (j + 1) k' H') ∧ ∀ x H', J1.yld j H x H' → g1 x (wipe σ2 vs1) H' fun σ3 H5 => wipe σ3 vs1 = wipe σ2 vs1 ∧ tt1 σ3 H5 fun b H6 =>
        if b = true then tk σ3 H6 fun y H7 => tv σ3 H7 fun z H8 => ∃ kvs k b, y = .ref b ∧ H8 b = some (.tup (k.map kV)) ∧ H8 D = some (.dT kvs) ∧ kvs.length < sizeLine ∧ Nx1 (upd H8 D (.dT (putK kvs k z))) else Nx1 H6)
    else Nx H3)
theorem dc2_core {pins : List (Addr × Obj)} {s : Shared} {σ : L2.St} {H : Hp} {Q : VK} {kx vx tg iter tg1 iter1 : Expr} {ifs ifs1 : List Expr} {scope : Scope} {own : List (Str × Nat)} {vs1 : List Nat} {pos pos' : Pos} {wi wi1 : TI} {g g1 : TG} {tt tt1 : TT} {tk tv : TE} {use : Option (Value → Sem Unit)} {Qf : Value → Shared → Prop}
    (hu : X.A.units + 64 < cLine) (hc : X.calm = true) (hN : X.N.Nodup) (I : L2.Inv X pins σ H s) (hi : PI X tg iter wi) (ok : BlkOk X.N X.env.scope scope own) (hv : ∀ i ∈ vs1, i ∈ own.map (·.2))
    (hg : ∀ (s : Shared) (H : Hp) (C : Addr) (cl : List (Str × Addr)) (fp : List Addr), PG (X.blk s H scope (compEnvC scope cl C X.env) fp) tg g) (ht : ∀ (s : Shared) (H : Hp) (C : Addr) (cl : List (Str × Addr)) (fp : List Addr), PTs (X.blk s H scope (compEnvC scope cl C X.env) fp) ifs tt)
    (hk : ∀ (s : Shared) (H : Hp) (C : Addr) (cl : List (Str × Addr)) (fp : List Addr), PE (X.blk s H scope (compEnvC scope cl C X.env) fp) kx tk)
    (he : ∀ (s : Shared) (H : Hp) (C : Addr) (cl : List (Str × Addr)) (fp : List Addr), PE (X.blk s H scope (compEnvC scope cl C X.env) fp) vx tv) (hs : ∀ x, foldedSetIterable iter X.env x = pure x)
    (hi1 : ∀ (s : Shared) (H : Hp) (C : Addr) (cl : List (Str × Addr)) (fp : List Addr), PI (X.blk s H scope (compEnvC scope cl C X.env) fp) tg1 iter1 wi1)
    (hg1 : ∀ (s : Shared) (H : Hp) (C : Addr) (cl : List (Str × Addr)) (fp : List Addr), PG (X.blk s H scope (compEnvC scope cl C X.env) fp) tg1 g1)
    (ht1 : ∀ (s : Shared) (H : Hp) (C : Addr) (cl : List (Str × Addr)) (fp : List Addr), PTs (X.blk s H scope (compEnvC scope cl C X.env) fp) ifs1 tt1)
    (hs1 : ∀ env x, foldedSetIterable iter1 env x = pure x)
    (h : tDc2 wi g tt wi1 g1 tt1 tk tv (own.map (·.2)) vs1 σ H Q)
    (hRR : ∀ D C s' m H', L2.Inv X pins σ H' s' → Q (.ref D) H' → s'.heap.Ns C m → FpOk X pins H' C → compPost (model X.prog X.w) X.A X.xe use Qf (.ref D) C (.ok .next) s') :
    wpAny (model X.prog X.w) X.A (comprehension (.DictComp kx vx [⟨tg, iter, ifs, 0⟩, ⟨tg1, iter1, ifs1, 0⟩] scope pos) scope X.env pos' newDict false (eval iter X.env) use) Qf X.xe s := by
  have hfree : ∀ y ∈ scope.names, y.2 = .free → ∃ c, X.env.cells.lookup y.1 = some c := fun y hy e => by
    rcases ok.free y hy e with k | k
    · exact I.ok.has _ (.inl k)
    · exact I.ok.has _ (.inr k)
  refine wpAny_comprehension_free (use := use) rfl hs (closure_ok hfree) ok.kind (fun y hy e => by rw [ok.uniq y hy, e])
    (thn (hi.run pins s σ H _ I h) fun xv s1 hx => thn hx fun itv s2 h2 => ?_)
  obtain ⟨it, fp, tn, J, H2, e, I2, T, st2, f2, q⟩ := h2
  subst e
  refine wpAny_newObj_type (newEnv_comp ?_)
  generalize hD : s2.heap.objs.size = D
  have hDn : H2 D = none := I2.hok.fresh (Nat.le_of_eq hD)
  obtain ⟨W, ⟨m0, w0⟩, turn⟩ := q D hDn
  -- the new list
  generalize hs3 : ({ s2 with heap := s2.heap.push { cls := .type "dict", data := .dict #[] } } : Shared) = s3
  have I3 : L2.Inv X pins σ (upd H2 D (.dT [])) s3 := by
    rw [← hs3]
    refine I2.laid (t' := s2.toks) (fun b o e => Heap.get?_push_of_some _ e) (Nat.le_of_eq hD) ?_
    rw [← hD]
    exact dt_empty s2.heap I2.big
  have h3 : s3.heap = s2.heap.push { cls := .type "dict", data := .dict #[] } := by rw [← hs3]
  have sz : ∀ b ∈ fp, b < s2.heap.objs.size := fun b hb => by
    obtain ⟨o, e, _⟩ := T.obj _ _ st2 b hb
    exact Heap.lt_size e
  have f3 : ∀ b ∈ fp, FpOk X pins (upd H2 D (.dT [])) b ∧ b < s3.heap.objs.size := fun b hb => by
    have hlt := sz b hb
    refine ⟨⟨?_, (f2 b hb).2⟩, by rw [h3, Heap.size_push]; exact Nat.lt_succ_of_lt hlt⟩
    rw [upd_ne (by rw [← hD]; exact Nat.ne_of_lt hlt)]
    exact (f2 b hb).1
  have st3 : tn 0 s3.heap := T.keep _ _ _ st2 fun b _ o e => by rw [h3]; exact Heap.get?_push_of_some _ e
  have I4 := block_start I3 ok hN f3
  have pg := hg s3 (upd H2 D (.dT [])) s3.heap.objs.size (cellsFrom (s3.heap.objs.size + 1) scope.names (cloFrom X.env.cells scope.names [])) fp
  have pt := ht s3 (upd H2 D (.dT [])) s3.heap.objs.size (cellsFrom (s3.heap.objs.size + 1) scope.names (cloFrom X.env.cells scope.names [])) fp
  have pk := hk s3 (upd H2 D (.dT [])) s3.heap.objs.size (cellsFrom (s3.heap.objs.size + 1) scope.names (cloFrom X.env.cells scope.names [])) fp
  have pe := he s3 (upd H2 D (.dT [])) s3.heap.objs.size (cellsFrom (s3.heap.objs.size + 1) scope.names (cloFrom X.env.cells scope.names [])) fp
  have pi1 := hi1 s3 (upd H2 D (.dT [])) s3.heap.objs.size (cellsFrom (s3.heap.objs.size + 1) scope.names (cloFrom X.env.cells scope.names [])) fp
  have pg1 := hg1 s3 (upd H2 D (.dT [])) s3.heap.objs.size (cellsFrom (s3.heap.objs.size + 1) scope.names (cloFrom X.env.cells scope.names [])) fp
  have pt1 := ht1 s3 (upd H2 D (.dT [])) s3.heap.objs.size (cellsFrom (s3.heap.objs.size + 1) scope.names (cloFrom X.env.cells scope.names [])) fp
  show codeAny _ _ (.compStart (.DictComp kx vx [⟨tg, iter, ifs, 0⟩, ⟨tg1, iter1, ifs1, 0⟩] scope pos) 0 (.ref it) (.ref D) (compEnvC scope (cellsFrom (s3.heap.objs.size + 1) scope.names (cloFrom X.env.cells scope.names [])) s3.heap.objs.size X.env)) (compPost (model X.prog X.w) X.A X.xe use Qf (.ref D) s3.heap.objs.size) { s3 with heap := pushCells (s3.heap.push { cls := .type "dict", data := .dict #[] }) scope.names }
  have nfp : ∀ b ∈ fp, (upd H2 D (.dT [])) b = none := fun b hb => (f3 b hb).1.1
  generalize hce : compEnvC scope (cellsFrom (s3.heap.objs.size + 1) scope.names (cloFrom X.env.cells scope.names [])) s3.heap.objs.size X.env = ce at I4 pg pt pk pe pi1 pg1 pt1 ⊢
  have cL : ce.locals = s3.heap.objs.size := by subst hce; rfl
  generalize hH3 : upd H2 D (.dT []) = H3 at I3 I4 pg pt pk pe pi1 pg1 pt1 w0 nfp f3
  generalize hs4 : ({ s3 with heap := pushCells (s3.heap.push { cls := .type "dict", data := .dict #[] }) scope.names } : Shared) = s4 at I4 ⊢
  have st4 : tn 0 s4.heap := T.keep _ _ _ st3 fun b _ o e => by rw [← hs4]; exact pushCells_keeps _ _ _ _ (Heap.get?_push_of_some _ e)
  have stat : ∀ {σ' : L2.St} {H' : Hp} {s' : Shared}, L2.Inv (X.blk s3 H3 scope ce fp) [] σ' H' s' → (∀ b ∈ fp, H' b = none) → ∀ b ∈ fp, FpOk (X.blk s3 H3 scope ce fp) [] H' b := fun {σ' H' s'} I' hn b hb =>
    ⟨hn b hb, (I'.ok.exf b hb).1, I'.ok.exfs b hb, .inl hb, fun x c e => (I'.ok.exf b hb).2 x c e, fun p hp => absurd (show p ∈ ([] : List (Addr × Obj)) ++ [] from hp) (by simp)⟩
  have loop : codeAny (model X.prog X.w) X.A (.compLoop (.DictComp kx vx [⟨tg, iter, ifs, 0⟩, ⟨tg1, iter1, ifs1, 0⟩] scope pos) 0 (.ref it) (.ref D) ce) (compPost (model X.prog X.w) X.A X.xe use Qf (.ref D) s3.heap.objs.size) s4 := by
    refine compLoop2D_out (hs1 ce) (fun n s' => ∃ i H', L2.Inv (X.blk s3 H3 scope ce fp) [] (wipe σ (own.map (·.2))) H' s' ∧ tn i s'.heap ∧ (∀ b ∈ fp, H' b = none) ∧ W i n H') ?_ m0 ⟨0, H3, I4, st4, nfp, w0⟩
    rintro n s5 ⟨i, H5, I5, st5, n5, w5⟩
    rcases turn i n H5 w5 with ⟨stop, qq⟩ | ⟨go, Nx, hNx, step⟩
    · have td := T.done (X.blk s3 H3 scope ce fp) rfl rfl rfl hc i [] s5 _ H5 (fun _ _ => False) I5 (stat I5 n5) st5 stop
      refine thnF td fun r s6 ⟨hr, I6⟩ => ?_
      subst hr
      -- back in the def's context
      have I7 : L2.Inv X pins σ H5 s6 := I3.call' (ch := fp) I6.os I6.base I6.hok I6.bare fun b hb => ⟨(f3 b hb).1.2.2.2.1, (f3 b hb).1.2.1, (f3 b hb).1.2.2.2.2.1, (f3 b hb).1.2.2.2.2.2⟩
      have nC : H5 s3.heap.objs.size = none := by
        have z : H5 ce.locals = none := I6.free
        rw [cL] at z
        exact z
      obtain ⟨m, hn, _⟩ := I6.loc
      have hn : s6.heap.Ns ce.locals m := hn
      rw [cL] at hn
      exact hRR D s3.heap.objs.size s6 m H5 I7 qq hn (I3.fpOk (Nat.le_refl _) nC)
    · have ti := T.item (X.blk s3 H3 scope ce fp) rfl rfl rfl hc i [] s5 _ H5 (fun _ _ => False) I5 (stat I5 n5) st5 go
      refine thnF ti fun r s6 ⟨u, hr, h6⟩ => ?_
      subst hr
      refine thnF h6 fun _ s7 ⟨x, H7, I7, r7, y7, st7, n7⟩ => ?_
      have I7' := I7.pinned (stat I7 n7) (T.obj _ _ st7)
      refine thnF (pg.run _ s7 _ H7 x u _ I7' r7 (step x H7 y7)) fun _ s8 ⟨σ8, H8, I8, hw8, q8⟩ => ?_
      refine thnF (pt.run _ s8 σ8 H8 _ I8 q8) fun b s9 ⟨H9, I9, q9⟩ => ?_
      -- the turn's end, from any slots that know what the block knew at its start
      have fin : ∀ {σ9 : L2.St} {s' : Shared} {H' : Hp}, L2.Inv (X.blk s3 H3 scope ce fp) ([] ++ pinsAt fp s7.heap) σ9 H' s' → (wipe σ (own.map (·.2))).length = σ9.length → (∀ (j : Nat) v, (wipe σ (own.map (·.2)))[j]? = some (some v) → σ9[j]? = some (some v)) → Nx H' →
          ∃ m, m < n ∧ ∃ i H', L2.Inv (X.blk s3 H3 scope ce fp) [] (wipe σ (own.map (·.2))) H' s' ∧ tn i s'.heap ∧ (∀ b ∈ fp, H' b = none) ∧ W i m H' := fun {σ9 s' H'} I' hl hk nx => by
        obtain ⟨m', hm, w'⟩ := hNx H' nx
        have pin' : ∀ b ∈ fp, ∀ o, s7.heap.get? b = some o → s'.heap.get? b = some o ∧ H' b = none := fun b hb o e =>
          let z := I'.pin (b, o) (List.mem_append_right _ (List.mem_append_right _ (mem_pinsAt hb e)))
          ⟨z.1, z.2.1⟩
        refine ⟨m', hm, i + 1, H', (I'.unpinned (pins := [])).weak hl hk, T.keep _ _ _ st7 fun b hb o e => (pin' b hb o e).1, fun b hb => ?_, w'⟩
        obtain ⟨o, e, _⟩ := T.obj _ _ st7 b hb
        exact (pin' b hb o e).2
      have hl8 : (wipe σ (own.map (·.2))).length = σ8.length := by rw [← hw8, wipe_length]
      have hk8 : ∀ (j : Nat) v, (wipe σ (own.map (·.2)))[j]? = some (some v) → σ8[j]? = some (some v) := fun j v e => by
        rw [← hw8] at e
        exact (wipe_some e).1
      have hk9 : ∀ (j : Nat) v, (wipe σ (own.map (·.2)))[j]? = some (some v) → (wipe σ8 vs1)[j]? = some (some v) := fun j v e => by
        rw [← hw8] at e
        obtain ⟨e1, e2⟩ := wipe_some e
        rw [wipe_out fun z => e2 (hv j z)]
        exact e1
      cases b with
      | false =>
        simp only [Bool.false_eq_true, if_false] at q9 ⊢
        exact fin I9 hl8 hk8 q9
      | true =>
        simp only [if_true] at q9 ⊢
        refine thnF (pi1.run _ s9 σ8 H9 _ I9 q9) fun xv s10 hx => thnF hx fun itv s11 h11 => ?_
        obtain ⟨it1, fp1, tn1, J1, H11, e1, I11, T1, st11, f11, W1, ⟨m1, w1⟩, turn1⟩ := h11
        subst e1
        -- the inner loop
        have stat1 : ∀ {H' : Hp}, (∀ b ∈ fp1, H' b = none) → ∀ b ∈ fp1, FpOk (X.blk s3 H3 scope ce fp) ([] ++ pinsAt fp s7.heap) H' b := fun hn b hb => ⟨hn b hb, (f11 b hb).2⟩
        have loop1 : codeAny (model X.prog X.w) X.A (.compLoop (.DictComp kx vx [⟨tg, iter, ifs, 0⟩, ⟨tg1, iter1, ifs1, 0⟩] scope pos) 1 (.ref it1) (.ref D) ce)
            (fun r s' => match r with
              | .ok _ => ∃ m, m < n ∧ ∃ i H', L2.Inv (X.blk s3 H3 scope ce fp) [] (wipe σ (own.map (·.2))) H' s' ∧ tn i s'.heap ∧ (∀ b ∈ fp, H' b = none) ∧ W i m H'
              | .error _ => False) s11 := by
          refine compLoop2D_in (fun k s' => ∃ j H', L2.Inv (X.blk s3 H3 scope ce fp) ([] ++ pinsAt fp s7.heap) (wipe σ8 vs1) H' s' ∧ tn1 j s'.heap ∧ (∀ b ∈ fp1, H' b = none) ∧ W1 j k H') ?_ m1 ⟨0, H11, I11.weak (wipe_length _ _) (fun j v e => (wipe_some e).1), st11, fun b hb => (f11 b hb).1, w1⟩
          rintro k s12 ⟨j, H12, I12, st12, n12, w12⟩
          rcases turn1 j k H12 w12 with ⟨stop1, nx1⟩ | ⟨go1, Nx1, hNx1, step1⟩
          · refine thnF (T1.done (X.blk s3 H3 scope ce fp) rfl rfl rfl hc j _ s12 (wipe σ8 vs1) H12 (fun _ _ => False) I12 (stat1 n12) st12 stop1) fun r s13 ⟨hr, I13⟩ => ?_
            subst hr
            exact fin I13 (hl8.trans (wipe_length σ8 vs1).symm) hk9 nx1
          · refine thnF (T1.item (X.blk s3 H3 scope ce fp) rfl rfl rfl hc j _ s12 (wipe σ8 vs1) H12 (fun _ _ => False) I12 (stat1 n12) st12 go1) fun r s13 ⟨u1, hr, h13⟩ => ?_
            subst hr
            refine thnF h13 fun _ s14 ⟨x1, H14, I14, r14, y14, st14, n14⟩ => ?_
            have I14' := I14.pinned (stat1 n14) (T1.obj _ _ st14)
            refine thnF (pg1.run _ s14 (wipe σ8 vs1) H14 x1 u1 _ I14' r14 (step1 x1 H14 y14)) fun _ s15 ⟨σ15, H15, I15, hw15, q15⟩ => ?_
            refine thnF (pt1.run _ s15 σ15 H15 _ I15 q15) fun b1 s16 ⟨H16, I16, q16⟩ => ?_
            have fin1 : ∀ {s' : Shared} {H' : Hp}, L2.Inv (X.blk s3 H3 scope ce fp) (([] ++ pinsAt fp s7.heap) ++ pinsAt fp1 s14.heap) σ15 H' s' → Nx1 H' → ∃ m, m < k ∧ ∃ j H', L2.Inv (X.blk s3 H3 scope ce fp) ([] ++ pinsAt fp s7.heap) (wipe σ8 vs1) H' s' ∧ tn1 j s'.heap ∧ (∀ b ∈ fp1, H' b = none) ∧ W1 j m H' := fun {s' H'} I' nx => by
              obtain ⟨m', hm, w'⟩ := hNx1 H' nx
              have pin' : ∀ b ∈ fp1, ∀ o, s14.heap.get? b = some o → s'.heap.get? b = some o ∧ H' b = none := fun b hb o e =>
                let z := I'.pin (b, o) (List.mem_append_right _ (List.mem_append_right _ (mem_pinsAt hb e)))
                ⟨z.1, z.2.1⟩
              refine ⟨m', hm, j + 1, H', I'.unpinned.weak (by rw [← hw15, wipe_length]) (fun j v e => by rw [← hw15] at e; exact (wipe_some e).1), T1.keep _ _ _ st14 fun b hb o e => (pin' b hb o e).1, fun b hb => ?_, w'⟩
              obtain ⟨o, e, _⟩ := T1.obj _ _ st14 b hb
              exact (pin' b hb o e).2
            cases b1 with
            | false =>
              simp only [Bool.false_eq_true, if_false] at q16 ⊢
              exact fin1 I16 q16
            | true =>
              simp only [if_true] at q16 ⊢
              refine thnF (pk.run _ s16 σ15 H16 _ I16 q16) fun z0 s17 ⟨yk, H17, I17, r17, q17⟩ => ?_
              refine thnF (pe.run _ s17 σ15 H17 _ I17 q17) fun z s18 ⟨yv, H18, I18, r18, kvs, k, bb, ek, hbb, hD18, hz18, nx⟩ => ?_
              subst ek
              exact d_dictSetT (X := X.blk s3 H3 scope ce fp) hu I18 hbb hD18 hz18 r17 r18 fun s19 I19 => fin1 I19 nx
        exact compStart1D_ok loop1 (T1.self X.A 0 _ _ _ st11 loop1)
  exact codeAny_compStart_dict loop (T.self X.A 0 _ _ _ st4 loop)
/-- as a value -/
theorem pe_dc2 {kx vx tg iter tg1 iter1 : Expr} {ifs ifs1 : List Expr} {scope : Scope} {own : List (Str × Nat)} {vs1 : List Nat} {pos : Pos} {wi wi1 : TI} {g g1 : TG} {tt tt1 : TT} {tk tv : TE} (hu : X.A.units + 64 < cLine) (hc : X.calm = true) (hN : X.N.Nodup) (hi : PI X tg iter wi) (ok : BlkOk X.N X.env.scope scope own) (hv : ∀ i ∈ vs1, i ∈ own.map (·.2))
    (hg : ∀ (s : Shared) (H : Hp) (C : Addr) (cl : List (Str × Addr)) (fp : List Addr), PG (X.blk s H scope (compEnvC scope cl C X.env) fp) tg g) (ht : ∀ (s : Shared) (H : Hp) (C : Addr) (cl : List (Str × Addr)) (fp : List Addr), PTs (X.blk s H scope (compEnvC scope cl C X.env) fp) ifs tt)
    (hi1 : ∀ (s : Shared) (H : Hp) (C : Addr) (cl : List (Str × Addr)) (fp : List Addr), PI (X.blk s H scope (compEnvC scope cl C X.env) fp) tg1 iter1 wi1)
    (hg1 : ∀ (s : Shared) (H : Hp) (C : Addr) (cl : List (Str × Addr)) (fp : List Addr), PG (X.blk s H scope (compEnvC scope cl C X.env) fp) tg1 g1) (ht1 : ∀ (s : Shared) (H : Hp) (C : Addr) (cl : List (Str × Addr)) (fp : List Addr), PTs (X.blk s H scope (compEnvC scope cl C X.env) fp) ifs1 tt1)
    (hk : ∀ (s : Shared) (H : Hp) (C : Addr) (cl : List (Str × Addr)) (fp : List Addr), PE (X.blk s H scope (compEnvC scope cl C X.env) fp) kx tk)
    (he : ∀ (s : Shared) (H : Hp) (C : Addr) (cl : List (Str × Addr)) (fp : List Addr), PE (X.blk s H scope (compEnvC scope cl C X.env) fp) vx tv) (hs : ∀ x, foldedSetIterable iter X.env x = pure x := by intro _; rfl) (hs1 : ∀ env x, foldedSetIterable iter1 env x = pure x := by intro _ _; rfl) :
    PE X (.DictComp kx vx [⟨tg, iter, ifs, 0⟩, ⟨tg1, iter1, ifs1, 0⟩] scope pos) (tDc2 wi g tt wi1 g1 tt1 tk tv (own.map (·.2)) vs1) := by
  refine ⟨fun pins s σ H Q I h => ?_⟩
  rw [arm_eval_DictComp]
  refine dc2_core hu hc hN I hi ok hv hg ht hk he hs hi1 hg1 ht1 hs1 h fun D C s' m H' I' q hn f => ⟨m, hn, fun h'' sb => ?_⟩
  obtain ⟨f0, f1, f2, f3, f4, f5⟩ := f
  exact ⟨.ref D, H', I'.turned (t' := s'.toks) (fun b o hb e => (sb.2 b hb).trans e) f0 f1 f3 f4 f5, rfl, q⟩
theorem ps_setDc2 {i : Nat} {y : Str} {py : Pos} {kx vx tg iter tg1 iter1 : Expr} {ifs ifs1 : List Expr} {scope : Scope} {own : List (Str × Nat)} {vs1 : List Nat} {pos spos : Pos} {wi wi1 : TI} {g g1 : TG} {tt tt1 : TT} {tk tv : TE} (hu : X.A.units + 64 < cLine) (hc : X.calm = true) (hN : X.N.Nodup) (hy : X.N[i]? = some y) (hyl : X.env.scope.names.lookup y = some .local)
    (hsw : swapsWith (.DictComp kx vx [⟨tg, iter, ifs, 0⟩, ⟨tg1, iter1, ifs1, 0⟩] scope pos) (some (.Name y py)) spos.line X.env = pure true) (hi : PI X tg iter wi) (ok : BlkOk X.N X.env.scope scope own) (hv : ∀ i ∈ vs1, i ∈ own.map (·.2))
    (hg : ∀ (s : Shared) (H : Hp) (C : Addr) (cl : List (Str × Addr)) (fp : List Addr), PG (X.blk s H scope (compEnvC scope cl C X.env) fp) tg g) (ht : ∀ (s : Shared) (H : Hp) (C : Addr) (cl : List (Str × Addr)) (fp : List Addr), PTs (X.blk s H scope (compEnvC scope cl C X.env) fp) ifs tt)
    (hi1 : ∀ (s : Shared) (H : Hp) (C : Addr) (cl : List (Str × Addr)) (fp : List Addr), PI (X.blk s H scope (compEnvC scope cl C X.env) fp) tg1 iter1 wi1)
    (hg1 : ∀ (s : Shared) (H : Hp) (C : Addr) (cl : List (Str × Addr)) (fp : List Addr), PG (X.blk s H scope (compEnvC scope cl C X.env) fp) tg1 g1) (ht1 : ∀ (s : Shared) (H : Hp) (C : Addr) (cl : List (Str × Addr)) (fp : List Addr), PTs (X.blk s H scope (compEnvC scope cl C X.env) fp) ifs1 tt1)
    (hk : ∀ (s : Shared) (H : Hp) (C : Addr) (cl : List (Str × Addr)) (fp : List Addr), PE (X.blk s H scope (compEnvC scope cl C X.env) fp) kx tk)
    (he : ∀ (s : Shared) (H : Hp) (C : Addr) (cl : List (Str × Addr)) (fp : List Addr), PE (X.blk s H scope (compEnvC scope cl C X.env) fp) vx tv) (hs : ∀ x, foldedSetIterable iter X.env x = pure x := by intro _; rfl) (hs1 : ∀ env x, foldedSetIterable iter1 env x = pure x := by intro _ _; rfl) :
    PS X (.Assign [.Name y py] (.DictComp kx vx [⟨tg, iter, ifs, 0⟩, ⟨tg1, iter1, ifs1, 0⟩] scope pos) spos) (tAsg (tDc2 wi g tt wi1 g1 tt1 tk tv (own.map (·.2)) vs1) (gName i)) := by
  refine ⟨fun pins s σ H D I h => ?_⟩
  rw [exec_Assign_Name_used _ _ _ _ hsw]
  refine wpAny_bind (wpAny_standAt (wpAny_bind ?_))
  show wpAny _ X.A (do let _ ← comprehension (.DictComp kx vx [⟨tg, iter, ifs, 0⟩, ⟨tg1, iter1, ifs1, 0⟩] scope pos) scope X.env (firstIterPos [⟨tg, iter, ifs, 0⟩, ⟨tg1, iter1, ifs1, 0⟩] pos) newDict false (eval iter X.env) (some (assign (.Name y py) X.env))) _ _ s
  have h : tDc2 wi g tt wi1 g1 tt1 tk tv (own.map (·.2)) vs1 σ H (fun x H1 => gName i x σ H1 D.nx) := h
  refine wpAny_bind (thn (dc2_core (Qf := fun _ s' => SP X pins D .next s') hu hc hN I hi ok hv hg ht hk he hs hi1 hg1 ht1 hs1 h fun L C s' m H' I' q hn f => ?_) fun _ s' hq => wpAny_pure (wpAny_pure hq))
  show wpAny _ _ (assign (.Name y py) X.env (.ref L)) _ _ _
  refine wpAny_assign_Name (store_ok2 (v := V.ref L) I' hN hy (.inl hyl) rfl (fun s2 I2 ⟨a, sb, ha⟩ => ?_) (.inr hyl))
  obtain ⟨f0, f1, f2, f3, f4, f5⟩ := f
  have haC : C ≠ a := by
    rcases ha with z | z
    · rw [z]; exact f1
    · exact fun e => f4 y a z e.symm
  refine ⟨m, hn.sameBut sb haC, fun h3 sb3 => ?_⟩
  exact ⟨_, H', I2.turned (t' := s2.toks) (fun b o hb e => (sb3.2 b hb).trans e) f0 f1 f3 f4 f5, q⟩
end
end DL

set_option Elab.async false
set_option linter.all false
set_option maxRecDepth 100000
set_option maxHeartbeats 2000000
namespace DL
open PySem PySem.Spec L2
theorem sw_dict {kx vx : Expr} {gs : List Comprehension} {scope : Scope} {pos py : Pos} {y : Str} {l : Nat} {env : Env} (h1 : env.scope.kind = .function) (h2 : env.scope.names.lookup y = some .local) (h3 : (py.line == pos.line) = true)
    (h4 : (scope.names.any fun (n, k) => n == y && (k == .local || k == .cell)) = false) : swapsWith (.DictComp kx vx gs scope pos) (some (.Name y py)) l env = pure true := by
  have k1 : env.kindOf y = some .local := h2
  have k2 : env.blockKind = .function := by unfold Env.blockKind; rw [h1]; rfl
  unfold swapsWith
  simp only [k2, k1, h4, Expr.pos, h3]
  rfl
section
variable {X : Cx} {sl : Sl} {rs : List Res} {Q : EQ} {tg iter tg1 iter1 kx vx : Expr} {ifs ifs1 : List Expr} {scope : Scope} {pos : Pos}
/-- {kx: vx for tg in iter for tg1 in iter1}, keys tuples -/
def DcI2 (X : Cx) (sl : Sl) (tg iter : Expr) (ifs : List Expr) (tg1 iter1 : Expr) (ifs1 : List Expr) (kx vx : Expr) (scope : Scope) (is : List Nat) (f : Da → Option (List Da)) (is1 : List Nat) (f1 : Da → Option (List Da)) (own : List (Str × Nat)) (vs1 : List Nat) (Pv : Nat → List Res → Prop) (rs : List Res) (Q : EQ) : Prop :=
  IW X sl tg iter rs fun ds rs1 => Pv 0 (rs1 ++ [.dT []]) ∧
      (∀ k d rs', ds[k]? = some d → Pv k rs' → ∃ ids, f d = some ids ∧ Blk X scope fun Y => PWs Y (setAll (wipeS sl (own.map (·.2))) (is.zip ids)) ifs rs' fun b rs2 => (b = false → Pv (k + 1) rs2) ∧
        (b = true → Blk X scope fun Y => IW Y (setAll (wipeS sl (own.map (·.2))) (is.zip ids)) tg1 iter1 rs2 fun ds1 rs3 => ∃ Pw : Nat → List Res → Prop, Pw 0 rs3 ∧
          (∀ j d1 rs4, ds1[j]? = some d1 → Pw j rs4 → ∃ ids1, f1 d1 = some ids1 ∧ Blk X scope fun Y => PWs Y (setAll (wipeS (setAll (wipeS sl (own.map (·.2))) (is.zip ids)) vs1) (is1.zip ids1)) ifs1 rs4 fun b rs5 => (b = false → Pw (j + 1) rs5) ∧
            (b = true → Blk X scope fun Y => EW Y (setAll (wipeS (setAll (wipeS sl (own.map (·.2))) (is.zip ids)) vs1) (is1.zip ids1)) kx rs5 fun rk rs6 => ∃ kd kk, rk = .sh (.tup kd) ∧ keyDs kd = some kk ∧ Blk X scope fun Y => EW Y (setAll (wipeS (setAll (wipeS sl (own.map (·.2))) (is.zip ids)) vs1) (is1.zip ids1)) vx rs6 fun r rs7 => ∃ d kvs, r = .sh d ∧ rs7[rs1.length]? = some (.dT kvs) ∧ kvs.length < 100000 ∧ Pw (j + 1) (rs7.set rs1.length (.dT (putD kvs kk d))))) ∧
          ∀ rs', Pw ds1.length rs' → Pv (k + 1) rs')) ∧
      ∀ rs', Pv ds.length rs' → Q (.rf rs1.length) rs'
theorem dcD2 {is is1 : List Nat} {f f1 : Da → Option (List Da)} {Pv : Nat → List Res → Prop} {own : List (Str × Nat)} {vs1 : List Nat} (hsub : ∀ i ∈ is, i ∈ own.map (·.2)) (hsub1 : ∀ i ∈ is1, i ∈ vs1) (hg : Blk X scope fun Y => LcG Y tg is f) (hg1 : Blk X scope fun Y => LcG Y tg1 is1 f1)
    (hi : DcI2 X sl tg iter ifs tg1 iter1 ifs1 kx vx scope is f is1 f1 own vs1 Pv rs Q) {T : Tw} {σ : L2.St} {H : Hp} (hR : RepH X.K T rs H) (S : SlOk X.K T sl σ) {Qf : VK} (hq : ∀ T' rs' r v H', T.le T' → RepH X.K T' rs' H' → RpV X.K T' v r → Q r rs' → Qf v H') :
    tDc2 (tiS X tg iter) (gB X scope tg) (tB2 X scope ifs) (tiB X scope tg1 iter1) (gB X scope tg1) (tB2 X scope ifs1) (eB X scope kx) (eB X scope vx) (own.map (·.2)) vs1 σ H Qf := by
  refine (IW.go hi T σ H hR S).mono ?_
  rintro J H1 ⟨T1, rs1, ds, l, R1, it, p0, ps, pend⟩ D hD
  have SW1 := (S.le l).wipe (own.map (·.2))
  refine ⟨fun i m H => m = ds.length - i ∧ i ≤ ds.length ∧ ∃ T' rs', (T1.more D).le T' ∧ RepH X.K T' rs' H ∧ Pv i rs', ⟨ds.length, by simp, Nat.zero_le _, _, _, .refl _, make_dT0 R1 hD, p0⟩, ?_⟩
  rintro i m H2 ⟨rfl, hi, T', rs', l', R', p⟩
  have l1' : T1.le T' := (T1.le_more D).trans l'
  have adD : T'.ad rs1.length = D := by
    rw [l'.ad rs1.length (by rw [R1.n]; exact Nat.lt_succ_self _)]
    show (if rs1.length = T1.n then D else _) = D
    rw [if_pos R1.n]
  by_cases hlt : i < ds.length
  · refine .inr ⟨it.go i T' rs' H2 hlt l1' R', fun H' => ∃ T2 rs2, (T1.more D).le T2 ∧ RepH X.K T2 rs2 H' ∧ Pv (i + 1) rs2, fun H' ⟨T2, rs2, a, b, c⟩ => ⟨ds.length - (i + 1), by omega, rfl, hlt, T2, rs2, a, b, c⟩, fun x H' y => ?_⟩
    obtain ⟨T2, l2, R2, rp⟩ := it.yld i _ T' rs' H2 x H' (List.getElem?_eq_getElem hlt) l1' R' y
    obtain ⟨ids, hf, hb⟩ := ps i _ rs' (List.getElem?_eq_getElem hlt) p
    intro s0 H0 C0 cl0 fp0
    refine (hg s0 H0 C0 cl0 fp0).run T2 rs' _ H' x _ ids _ R2 rp hf fun vs rps hvl => ⟨zip_same hsub hvl, fun s1 H1 C1 cl1 fp1 => ?_⟩
    have S2 := setAll_ok (paired_zip rps hvl) ((SW1.le l1').le l2)
    refine ptsS.mono ((hb s1 H1 C1 cl1 fp1).go T2 _ H' R2 S2) fun b H3 ⟨T3, rs3, l3, R3, q1, q2⟩ => ?_
    cases b with
    | false => exact iteF ⟨T3, rs3, (l'.trans l2).trans l3, R3, q1 rfl⟩
    | true =>
      refine iteT fun s2 H2' C2 cl2 fp2 => ((q2 rfl s2 H2' C2 cl2 fp2).go T3 _ H3 R3 (S2.le l3)).mono fun J1 H4 ⟨T4, rs4, ds1, l4, R4, it1, Pw, pw0, pws, pwe⟩ => ?_
      have ll4 : (T1.more D).le T4 := ((l'.trans l2).trans l3).trans l4
      refine ⟨fun j k H => k = ds1.length - j ∧ j ≤ ds1.length ∧ ∃ T' rs', T4.le T' ∧ RepH X.K T' rs' H ∧ Pw j rs', ⟨ds1.length, by simp, Nat.zero_le _, T4, rs4, .refl _, R4, pw0⟩, ?_⟩
      rintro j k H5 ⟨rfl, hj, T5, rs5, l5, R5, p5⟩
      by_cases hjt : j < ds1.length
      · refine .inr ⟨it1.go j T5 rs5 H5 hjt l5 R5, fun H' => ∃ T6 rs6, T4.le T6 ∧ RepH X.K T6 rs6 H' ∧ Pw (j + 1) rs6, fun H' ⟨T6, rs6, a, b, c⟩ => ⟨ds1.length - (j + 1), by omega, rfl, hjt, T6, rs6, a, b, c⟩, fun x1 H6 y1 => ?_⟩
        obtain ⟨T6, l6, R6, rp6⟩ := it1.yld j _ T5 rs5 H5 x1 H6 (List.getElem?_eq_getElem hjt) l5 R5 y1
        obtain ⟨ids1, hf1, hb1⟩ := pws j _ rs5 (List.getElem?_eq_getElem hjt) p5
        intro s3 H3' C3 cl3 fp3
        have S3 := ((((S2.le l3).le l4).le l5).le l6).wipe vs1
        refine (hg1 s3 H3' C3 cl3 fp3).run T6 rs5 _ H6 x1 _ ids1 _ R6 rp6 hf1 fun vs' rps' hvl' => ⟨zip_same hsub1 hvl', fun s4 H4' C4 cl4 fp4 => ?_⟩
        have S4 := setAll_ok (paired_zip rps' hvl') S3
        refine ptsS.mono ((hb1 s4 H4' C4 cl4 fp4).go T6 _ H6 R6 S4) fun b H7 ⟨T7, rs7, l7, R7, q7, q8⟩ => ?_
        cases b with
        | false => exact iteF ⟨T7, rs7, (l5.trans l6).trans l7, R7, q7 rfl⟩
        | true =>
          refine iteT fun s5 H5' C5 cl5 fp5 => teS.mono ((q8 rfl s5 H5' C5 cl5 fp5).go T7 _ H7 R7 (S4.le l7)) fun y H8 ⟨T8, rs8, r, l8, R8, p8, kd, kk, ek, hkk, q9⟩ => ?_
          subst ek
          intro s6 H6' C6 cl6 fp6
          refine teS.mono ((q9 s6 H6' C6 cl6 fp6).go T8 _ H8 R8 ((S4.le l7).le l8)) fun y2 H9 ⟨T9, rs9, r9, l9, R9, p9, d, kvs, e1, e2, e3, q⟩ => ?_
          subst e1
          obtain ⟨pa, ea, hp⟩ := key_at R9 (p8.le l9) hkk
          obtain ⟨h1, ws, h2, h3⟩ := R9.rs _ _ e2
          have l49 := (((l5.trans l6).trans l7).trans l8).trans l9
          have ad9 : T9.ad rs1.length = D := by
            have := (ll4.trans l49).ad rs1.length (by rw [R1.n]; exact Nat.lt_succ_self _)
            rw [this]
            show (if rs1.length = T1.n then D else _) = D
            rw [if_pos R1.n]
          rw [ad9] at h1 h2
          have hk : rs1.length < rs9.length := (List.getElem?_eq_some_iff.mp e2).1
          refine ⟨ws, kk, pa, ea, hp, h2, by rw [h3.len]; exact Nat.lt_of_lt_of_le e3 (by decide), T9, _, l49, R9.write h1 ?_ hk, q⟩
          exact ⟨by rw [ad9]; exact h1, _, by rw [ad9]; exact upd_same, h3.put p9⟩
      · have e : j = ds1.length := by omega
        subst e
        exact .inl ⟨it1.stop T5 rs5 H5 l5 R5, T5, rs5, ll4.trans l5, R5, pwe rs5 p5⟩
  · have e : i = ds.length := by omega
    subst e
    exact .inl ⟨it.stop T' rs' H2 l1' R', hq T' rs' (.rf rs1.length) _ _ (l.trans l1') R' ⟨Nat.lt_of_lt_of_le (by rw [R1.n]; exact Nat.lt_succ_self _) l'.n, by rw [adD]⟩ (pend rs' p)⟩
theorem ew_dc2 (hu : Un X) {is is1 : List Nat} {f f1 : Da → Option (List Da)} (Pv : Nat → List Res → Prop) (own : List (Str × Nat)) (vs1 : List Nat) (hg : Blk X scope fun Y => LcG Y tg is f) (hg1 : Blk X scope fun Y => LcG Y tg1 is1 f1)
    (hi : DcI2 X sl tg iter ifs tg1 iter1 ifs1 kx vx scope is f is1 f1 own vs1 Pv rs Q) (hN : X.N.Nodup) (ok : BlkOk X.N X.env.scope scope own := by exact (blk_of (by assumption) (by rfl) (by rfl) (by decide +kernel))) (hsub : ∀ i ∈ is, i ∈ own.map (·.2) := by decide) (hsub1 : ∀ i ∈ is1, i ∈ vs1 := by decide) (hv : ∀ i ∈ vs1, i ∈ own.map (·.2) := by decide) (hc : X.calm = true := by rfl) (hs : ∀ x, foldedSetIterable iter X.env x = pure x := by intro _; rfl) (hs1 : ∀ env x, foldedSetIterable iter1 env x = pure x := by intro _ _; rfl) : EW X sl (.DictComp kx vx [⟨tg, iter, ifs, 0⟩, ⟨tg1, iter1, ifs1, 0⟩] scope pos) rs Q :=
  ew_of (pe_dc2 (g := gB X scope tg) (tt := tB2 X scope ifs) (wi1 := tiB X scope tg1 iter1) (g1 := gB X scope tg1) (tt1 := tB2 X scope ifs1) (tk := eB X scope kx) (tv := eB X scope vx) hu hc hN pi_S ok hv (fun s H C cl fp => ⟨fun pins s' σ H' v u Q I r h => h s H C cl fp pins s' u I r⟩) (fun s H C cl fp => ⟨fun pins s' σ H' Q I h => h s H C cl fp pins s' I⟩) (fun s H C cl fp => ⟨fun pins s' σ H' Q I h => h s H C cl fp pins s' I⟩) (fun s H C cl fp => ⟨fun pins s' σ H' v u Q I r h => h s H C cl fp pins s' u I r⟩) (fun s H C cl fp => ⟨fun pins s' σ H' Q I h => h s H C cl fp pins s' I⟩) (fun s H C cl fp => ⟨fun pins s' σ H' Q I h => h s H C cl fp pins s' I⟩) (fun s H C cl fp => ⟨fun pins s' σ H' Q I h => h s H C cl fp pins s' I⟩) hs hs1)
    fun T σ H hR S => dcD2 hsub hsub1 hg hg1 hi hR S fun T' rs' r v H' l R' p q => ⟨T', rs', r, l, R', p, q⟩
theorem s_setDc2 (hu : Un X) (i : Nat) {is is1 : List Nat} {f f1 : Da → Option (List Da)} (Pv : Nat → List Res → Prop) (own : List (Str × Nat)) (vs1 : List Nat) {R : Out} {y : Str} {py spos : Pos} (hg : Blk X scope fun Y => LcG Y tg is f) (hg1 : Blk X scope fun Y => LcG Y tg1 is1 f1)
    (hi : DcI2 X sl tg iter ifs tg1 iter1 ifs1 kx vx scope is f is1 f1 own vs1 Pv rs fun r rs' => R.nx (sl.set i (some r)) rs') (hN : X.N.Nodup) (hsw : swapsWith (.DictComp kx vx [⟨tg, iter, ifs, 0⟩, ⟨tg1, iter1, ifs1, 0⟩] scope pos) (some (.Name y py)) spos.line X.env = pure true := by exact (sw_dict rfl rfl rfl (by decide +kernel))) (hy : X.N[i]? = some y := by rfl) (hyl : X.env.scope.names.lookup y = some .local := by rfl) (ok : BlkOk X.N X.env.scope scope own := by exact (blk_of (by assumption) (by rfl) (by rfl) (by decide +kernel))) (hsub : ∀ i ∈ is, i ∈ own.map (·.2) := by decide) (hsub1 : ∀ i ∈ is1, i ∈ vs1 := by decide) (hv : ∀ i ∈ vs1, i ∈ own.map (·.2) := by decide) (hc : X.calm = true := by rfl) (hs : ∀ x, foldedSetIterable iter X.env x = pure x := by intro _; rfl) (hs1 : ∀ env x, foldedSetIterable iter1 env x = pure x := by intro _ _; rfl) :
    S1 X sl (.Assign [.Name y py] (.DictComp kx vx [⟨tg, iter, ifs, 0⟩, ⟨tg1, iter1, ifs1, 0⟩] scope pos) spos) rs R :=
  s1_of (ps_setDc2 (g := gB X scope tg) (tt := tB2 X scope ifs) (wi1 := tiB X scope tg1 iter1) (g1 := gB X scope tg1) (tt1 := tB2 X scope ifs1) (tk := eB X scope kx) (tv := eB X scope vx) hu hc hN hy hyl hsw pi_S ok hv (fun s H C cl fp => ⟨fun pins s' σ H' v u Q I r h => h s H C cl fp pins s' u I r⟩) (fun s H C cl fp => ⟨fun pins s' σ H' Q I h => h s H C cl fp pins s' I⟩) (fun s H C cl fp => ⟨fun pins s' σ H' Q I h => h s H C cl fp pins s' I⟩) (fun s H C cl fp => ⟨fun pins s' σ H' v u Q I r h => h s H C cl fp pins s' u I r⟩) (fun s H C cl fp => ⟨fun pins s' σ H' Q I h => h s H C cl fp pins s' I⟩) (fun s H C cl fp => ⟨fun pins s' σ H' Q I h => h s H C cl fp pins s' I⟩) (fun s H C cl fp => ⟨fun pins s' σ H' Q I h => h s H C cl fp pins s' I⟩) hs hs1)
    fun T σ H hR S => dcD2 hsub hsub1 hg hg1 hi hR S fun T' rs' r v H' l R' p q => ⟨T', _, rs', l, R', (S.le l).set i p, q⟩
end
end DL

set_option Elab.async false
set_option linter.all false
set_option maxRecDepth 100000
set_option maxHeartbeats 2000000
namespace DL
open PySem PySem.Spec L2
open PyProof.Rows hiding St
/-! ## list.count of texts; isinstance of two kinds -/
theorem pDs_strs : ∀ ys : List Str, pDs (ys.map Da.str) = ys.map PyData.str
  | [] => rfl
  | y :: ys => by rw [List.map_cons, pDs, pDs_strs ys]; rfl
theorem plains_strs : ∀ ys : List Str, plains (ys.map Da.str) = true
  | [] => rfl
  | y :: ys => by rw [List.map_cons, plains, plains_strs ys]; rfl
theorem plainAll_strs : ∀ ys : List Str, PyData.plainAll (ys.map PyData.str) = true
  | [] => by simp [PyData.plainAll]
  | y :: ys => by rw [List.map_cons, PyData.plainAll, plainAll_strs ys]; simp [PyData.plain]
theorem depthAll_strs : ∀ ys : List Str, PyData.depthAll (ys.map PyData.str) = 0
  | [] => by simp [PyData.depthAll]
  | y :: ys => by rw [List.map_cons, PyData.depthAll, depthAll_strs ys]; simp [PyData.depth]
theorem countP_strs (x : Str) : ∀ ys : List Str, (ys.map PyData.str).countP (fun y => PyData.eqv y (.str x)) = ys.countP fun y => decide (y = x)
  | [] => rfl
  | y :: ys => by
    rw [List.map_cons, List.countP_cons, List.countP_cons, countP_strs x ys]
    have : PyData.eqv (.str y) (.str x) = decide (y = x) := by
      by_cases h : y = x <;> simp [PyData.eqv, h]
    rw [this]
section
variable {X : Cx} {rs : List Res} {Q : EQ} {r1 : Rv}
theorem mv_countS {ys : List Str} {x : Str} (hu : Un2 X) (w : Vw rs r1 (.lst (ys.map Da.str))) (q : Q (.sh (.int (ys.countP fun y => decide (y = x) : Nat))) rs) : MV X "list.count" r1 [.sh (.str x)] rs Q :=
  ⟨fun T H v vs R p pp pins s σ u us I r rv => by
    obtain ⟨v2, rfl, p2⟩ := rp1 pp
    obtain ⟨a, ws, e, hl, rp⟩ := w.lstv' R p
    subst e
    obtain ⟨u2, rfl, r2⟩ := vals1 rv
    obtain rfl : u = Value.ref a := r
    obtain ⟨its, rvs, hpl, hz⟩ := I.list (SqL.of hl)
    obtain ⟨as, hr⟩ := readsAll_of I R.h0 _ (plains_strs ys) rp rvs
    rw [pDs_strs] at hr
    have e2 := strOf p2
    subst e2
    obtain ⟨t, rfl⟩ := r2
    have hu : X.A.units + 150 < cLine := hu
    refine PySem.SeqAt.count_list_data (d := .str x) hpl.isList (by rw [List.toList_toArray]; exact hr) (.str x t) (plainAll_strs ys) rfl (by rw [depthAll_strs]; show _ + 1 + min 0 _ < _; omega) ?_
    rw [countP_strs]
    exact ⟨.int _, H, I.tok _, ⟨_, rfl⟩, epost R (r := .sh (.int _)) (.int _) q⟩⟩
/-- isinstance(x, (list, tuple)) -/
theorem cv_isLT {d : Da} (w : Vw rs r1 d) (q : Q (.sh (.bl (isiT (tyn d) "list" || isiT (tyn d) "tuple"))) rs) (hd : tyn d ∈ ["NoneType", "bool", "int", "str", "tuple", "list", "dict"] := by decide) : CV X (.builtin "isinstance") [r1, .sh (.tup [.ty "list", .ty "tuple"])] rs Q :=
  cv_of call_isiT fun T H vs R pp => by
    obtain ⟨v, w', rfl, p, p'⟩ := rp2 pp
    have hne : tyn d ≠ "" := fun z => by rw [z] at hd; revert hd; decide
    cases p' with
    | tup ht rt =>
      cases rt with
      | cons c1 t1 =>
        cases t1 with
        | cons c2 t2 =>
          cases t2
          cases c1
          cases c2
          refine ⟨v, _, [.ty "list", .ty "tuple"], _, [.type "list", .type "tuple"], _, rfl, R.h0 _ _ ht, .cons (.ty _) (.cons (.ty _) .nil), tyx (w.rp R p) hne, ?_, epost R (r := .sh (.bl _)) (.bl _) q⟩
          refine kitAny_cons (b := isiT (tyn d) "list") (kit_ty (isiT_ok _ hd _ (by decide))) (fun h => ?_) (fun h => by rw [h]; rfl)
          rw [h, Bool.false_or]
          refine kitAny_cons (b := isiT (tyn d) "tuple") (kit_ty (isiT_ok _ hd _ (by decide))) (fun h => ?_) (fun h => h)
          rw [h]; rfl
end
end DL

set_option Elab.async false
set_option linter.all false
set_option maxRecDepth 100000
set_option maxHeartbeats 1000000
namespace DL
open PySem PySem.Spec L2
/-! ## standings as keys; trips as rings -/
def tkK (bd : Bd) : List Key → List Key
  | [.inl i, .inl j, .inr x] => (bd.tick ⟨i.toNat, j.toNat, decide (x = "first")⟩).key
  | k => k
theorem tkK_key (bd : Bd) (s : Sd) : tkK bd s.key = (bd.tick s).key := by
  obtain ⟨i, j, f⟩ := s
  show (bd.tick ⟨((i : Nat) : Int).toNat, ((j : Nat) : Int).toNat, decide (lastT f = "first")⟩).key = _
  have : decide (lastT f = "first") = f := by cases f <;> decide +kernel
  rw [Int.toNat_natCast, Int.toNat_natCast, this]
/-- the t-th standing -/
def sdN (m t : Nat) : Sd := ⟨t / 2 / m, t / 2 % m, decide (t % 2 = 0)⟩
theorem sdN_inj {m a b : Nat} (h : sdN m a = sdN m b) : a = b := by
  unfold sdN at h
  simp only [Sd.mk.injEq, decide_eq_decide] at h
  obtain ⟨h1, h2, h3⟩ := h
  have h4 : a / 2 = b / 2 := by rw [← Nat.div_add_mod (a / 2) m, ← Nat.div_add_mod (b / 2) m, h1, h2]
  have h5 := Nat.mod_lt a (show 0 < 2 by omega)
  have h6 := Nat.mod_lt b (show 0 < 2 by omega)
  have h7 : a % 2 = b % 2 := by
    by_cases z : a % 2 = 0
    · rw [z, h3.mp z]
    · have : ¬ b % 2 = 0 := fun y => z (h3.mpr y)
      omega
  rw [← Nat.div_add_mod a 2, ← Nat.div_add_mod b 2, h4, h7]
def stKs (bd : Bd) (n : Nat) : List (List Key) := (List.range n).map fun t => (sdN bd.b.length t).key
abbrev Bd.all (bd : Bd) : Nat := bd.a.length * bd.b.length * 2
theorem stKs_mem {bd : Bd} {s : Sd} (hs : s.ok bd) : s.key ∈ stKs bd bd.all := by
  obtain ⟨i, j, f⟩ := s
  have hi : i < bd.a.length := hs.1
  have hj : j < bd.b.length := hs.2
  have him : i * bd.b.length + bd.b.length ≤ bd.a.length * bd.b.length := by
    rw [← Nat.succ_mul]; exact Nat.mul_le_mul_right _ hi
  have e1 : (i * bd.b.length + j) / bd.b.length = i := by
    rw [Nat.add_comm, Nat.add_mul_div_right _ _ (by omega), Nat.div_eq_of_lt hj, Nat.zero_add]
  have e2 : (i * bd.b.length + j) % bd.b.length = j := by
    rw [Nat.add_comm, Nat.add_mul_mod_self_right, Nat.mod_eq_of_lt hj]
  refine List.mem_map.mpr ⟨(i * bd.b.length + j) * 2 + (if f then 0 else 1), List.mem_range.mpr ?_, ?_⟩
  · show _ < bd.a.length * bd.b.length * 2
    split <;> omega
  · unfold sdN
    cases f
    · have h1 : ((i * bd.b.length + j) * 2 + 1) / 2 = i * bd.b.length + j := by omega
      have h2 : ((i * bd.b.length + j) * 2 + 1) % 2 = 1 := by omega
      simp [h1, h2, e1, e2]
    · have h1 : ((i * bd.b.length + j) * 2 + 0) / 2 = i * bd.b.length + j := by omega
      have h2 : ((i * bd.b.length + j) * 2 + 0) % 2 = 0 := by omega
      simp [e1, e2]
theorem stKs_at {bd : Bd} (h : bd.ok) {k : List Key} (hk : k ∈ stKs bd bd.all) : ∃ s : Sd, s.ok bd ∧ k = s.key := by
  obtain ⟨t, ht, rfl⟩ := List.mem_map.mp hk
  have ht : t < bd.a.length * bd.b.length * 2 := List.mem_range.mp ht
  have h3 := h.b1
  refine ⟨sdN bd.b.length t, ⟨?_, ?_⟩, rfl⟩
  · show t / 2 / bd.b.length < _
    refine Nat.div_lt_of_lt_mul ?_
    rw [Nat.mul_comm]; omega
  · show t / 2 % bd.b.length < _
    exact Nat.mod_lt _ (by omega)
theorem leadS {bd : Bd} (h : bd.ok) : LeadOk (tkK bd) (stKs bd bd.all) := by
  refine ⟨?_, fun k hk => ?_, ⟨false, [false, true], fun k hk => ?_⟩, fun k hk => ?_, ?_⟩
  · exact List.Pairwise.map _ (fun a b h e => h (sdN_inj (Sd.key_inj e))) List.nodup_range
  · obtain ⟨s, hs, rfl⟩ := stKs_at h hk
    rw [tkK_key]; exact stKs_mem (Bd.tick_ok h hs)
  · obtain ⟨s, hs, rfl⟩ := stKs_at h hk; rfl
  · obtain ⟨s, hs, rfl⟩ := stKs_at h hk; exact Sd.key_ok s
  · unfold stKs
    rw [List.length_map, List.length_range]
    have := h.size
    show bd.a.length * bd.b.length * 2 ≤ _
    omega
theorem itK (bd : Bd) (s : Sd) : ∀ t, itR (tkK bd) s.key t = (bd.go s t).key
  | 0 => rfl
  | t + 1 => by show tkK bd (itR (tkK bd) s.key t) = _; rw [itK bd s t, tkK_key]; rfl
theorem pathK (bd : Bd) (s : Sd) (n : Nat) : pathR (tkK bd) s.key n = (bd.line s n).map Sd.key := by
  unfold pathR Bd.line
  rw [List.map_map]
  exact List.map_congr_left fun t _ => itK bd s t
noncomputable def tripsK (bd : Bd) : List (List (List Key)) := ringsK (tkK bd) (stKs bd bd.all)
theorem tripsK_rgs {bd : Bd} (h : bd.ok) : Rgs (stKs bd bd.all) (tkK bd) (tripsK bd) := ringsK_rgs (leadS h).cl
/-- a ring of standings is a trip -/
theorem cyc_trip {bd : Bd} (h : bd.ok) {c : List (List Key)} (hc : Cyc (tkK bd) c) (hs : ∀ v ∈ c, v ∈ stKs bd bd.all) : ∃ s, bd.Trip s c.length ∧ c = (bd.line s c.length).map Sd.key := by
  obtain ⟨x, e1, e2⟩ := hc.at_
  have hx : x ∈ c := by rw [e1]; exact pathR_mem.mpr ⟨0, hc.pos, rfl⟩
  obtain ⟨s, hok, rfl⟩ := stKs_at h (hs x hx)
  refine ⟨s, ⟨hok, hc.pos, ?_, fun m hm em => ?_⟩, ?_⟩
  · rw [itK] at e2; exact Sd.key_inj e2
  · exact hc.least hx hm (by rw [itK, em])
  · rw [← pathK]; exact e1
theorem trips_ne {bd : Bd} (h : bd.ok) : tripsK bd ≠ [] := fun z => by
  obtain ⟨n, c, hc, _⟩ := (tripsK_rgs h).rch _ (stKs_mem (s := ⟨0, 0, true⟩) ⟨by have := h.a1; show 0 < _; omega, by have := h.b1; show 0 < _; omega⟩)
  rw [z] at hc; cases hc
theorem trip_of {bd : Bd} (h : bd.ok) {c : List (List Key)} (hc : c ∈ tripsK bd) : ∃ s, bd.Trip s c.length ∧ c = (bd.line s c.length).map Sd.key :=
  cyc_trip h ((tripsK_rgs h).cyc c hc) ((tripsK_rgs h).sub c hc)
/-- a board's pace, the ticks of its trips -/
noncomputable def Bd.pcN (bd : Bd) : Nat := ((tripsK bd).headD []).length
open Classical in
noncomputable def Bd.pcF (bd : Bd) : Nat := if h : ∃ s n, bd.Trip s n then bd.F h.choose h.choose_spec.choose else 0
noncomputable def Bd.pcP (bd : Bd) : Nat := bd.pcF / bd.a.length
noncomputable def Bd.pcQ (bd : Bd) : Nat := (bd.pcN - bd.pcF) / bd.b.length
theorem Bd.Trip.pc {bd : Bd} {s : Sd} {n : Nat} (h : bd.Trip s n) (hok : bd.ok) : n = bd.pcN ∧ bd.F s n = bd.pcF ∧ bd.pcF = bd.pcP * bd.a.length ∧ bd.pcN - bd.pcF = bd.pcQ * bd.b.length ∧ bd.pcF ≤ bd.pcN ∧ Nat.gcd bd.pcP bd.pcQ = 1 := by
  have e1 : n = bd.pcN := by
    unfold Bd.pcN
    cases hc : tripsK bd with
    | nil => exact absurd hc (trips_ne hok)
    | cons c L =>
      obtain ⟨s', t', _⟩ := trip_of hok (c := c) (by rw [hc]; exact List.mem_cons_self)
      exact (h.same t' hok).1
  have e2 : bd.F s n = bd.pcF := by
    unfold Bd.pcF
    have hex : ∃ s n, bd.Trip s n := ⟨s, n, h⟩
    rw [dif_pos hex]
    exact (h.same hex.choose_spec.choose_spec hok).2
  obtain ⟨p, q, g, hp, hq⟩ := h.pace hok
  have a1 := hok.a1
  have b1 := hok.b1
  have h3 : bd.pcP = p := by unfold Bd.pcP; rw [← e2, hp, Nat.mul_div_cancel _ (by omega)]
  have hG : bd.G s n = bd.pcN - bd.pcF := by unfold Bd.G; rw [e2, e1]
  have h4 : bd.pcQ = q := by unfold Bd.pcQ; rw [← hG, hq, Nat.mul_div_cancel _ (by omega)]
  refine ⟨e1, e2, by rw [h3, ← hp, e2], by rw [h4, ← hq, hG], ?_, by rw [h3, h4]; exact g⟩
  rw [← e1, ← e2]; exact Bd.F_le _
noncomputable abbrev Bd.pcD (bd : Bd) : Da := .tup [.int bd.pcP, .int bd.pcQ]
theorem trip_pc {bd : Bd} (h : bd.ok) : ∃ s n, bd.Trip s n := by
  cases hc : tripsK bd with
  | nil => exact absurd hc (trips_ne h)
  | cons c L =>
    obtain ⟨s', t', _⟩ := trip_of h (c := c) (by rw [hc]; exact List.mem_cons_self)
    exact ⟨s', _, t'⟩
theorem ring_da {bd : Bd} {s : Sd} {n : Nat} : ringD ((bd.line s n).map Sd.key) = .lst ((bd.line s n).map Sd.da) := by
  unfold ringD
  rw [List.map_map]; rfl
theorem Bd.fst_oth {bd : Bd} {i j : Nat} {l : Bool} (h : bd.wd i j = "other") : bd.fst ⟨i, j, l⟩ = !l := by
  show (decide (bd.wd i j = "first") || (decide (bd.wd i j = "other") && !l)) = !l
  rw [h]; cases l <;> decide +kernel
theorem Bd.fst_wd {bd : Bd} {i j : Nat} {l : Bool} (hw : isW (bd.wd i j)) (h : bd.wd i j ≠ "other") : bd.wd i j = lastT (bd.fst ⟨i, j, l⟩) := by
  show _ = lastT (decide (bd.wd i j = "first") || (decide (bd.wd i j = "other") && !l))
  rcases hw with e | e | e
  · rw [e]; cases l <;> decide +kernel
  · rw [e]; cases l <;> decide +kernel
  · exact absurd e h
end DL

set_option Elab.async false
set_option linter.all false
set_option maxRecDepth 100000
set_option maxHeartbeats 1000000
namespace DL
open PySem PySem.Spec L2
/-! ## how many rings there are -/
section
variable {κ : Type} [DecidableEq κ]
theorem flat_nodup : ∀ {L : List (List κ)}, (∀ c ∈ L, c.Nodup) → (L.Pairwise fun c d => ∀ v ∈ c, v ∉ d) → L.flatten.Nodup
  | [], _, _ => List.nodup_nil
  | c :: L, h, p => by
    rw [List.flatten_cons]
    obtain ⟨p1, p2⟩ := List.pairwise_cons.mp p
    refine List.nodup_append.mpr ⟨h c List.mem_cons_self, flat_nodup (fun d hd => h d (List.mem_cons_of_mem _ hd)) p2, fun x hx y hy e => ?_⟩
    obtain ⟨d, hd, hyd⟩ := List.mem_flatten.mp hy
    subst e
    exact p1 d hd x hx hyd
theorem flat_len {n : Nat} : ∀ {L : List (List κ)}, (∀ c ∈ L, c.length = n) → L.flatten.length = L.length * n
  | [], _ => by simp
  | c :: L, h => by
    rw [List.flatten_cons, List.length_append, flat_len fun d hd => h d (List.mem_cons_of_mem _ hd), h c List.mem_cons_self, List.length_cons, Nat.succ_mul, Nat.add_comm]
theorem Rgs.flat {ks : List κ} {f : κ → κ} {L : List (List κ)} (h : Rgs ks f L) : L.flatten.Nodup ∧ ∀ v ∈ L.flatten, v ∈ ks :=
  ⟨flat_nodup (fun c hc => (h.cyc c hc).nd) h.dj, fun v hv => by
    obtain ⟨c, hc, hvc⟩ := List.mem_flatten.mp hv
    exact h.sub c hc v hvc⟩
theorem Rgs.many {ks : List κ} {f : κ → κ} {L : List (List κ)} (h : Rgs ks f L) {n : Nat} (hn : ∀ c ∈ L, c.length = n) : L.length * n ≤ ks.length := by
  rw [← flat_len hn]
  exact nodup_lenG _ _ h.flat.1 h.flat.2
end
theorem trips_all {bd : Bd} (h : bd.ok) : ∀ c ∈ tripsK bd, c.length = bd.pcN := fun c hc => by
  obtain ⟨s, ht, _⟩ := trip_of h hc
  exact (ht.pc h).1
theorem trips_len {bd : Bd} (h : bd.ok) : (tripsK bd).length * bd.pcN ≤ bd.a.length * bd.b.length * 2 := by
  have := (tripsK_rgs h).many (trips_all h)
  unfold stKs at this
  rw [List.length_map, List.length_range] at this
  exact this
theorem trips_few {bd : Bd} (h : bd.ok) {m : Nat} (h1 : bd.a.length ≤ m) (h2 : bd.b.length ≤ m) : (tripsK bd).length ≤ 2 * m := by
  obtain ⟨s, n, ht⟩ := trip_pc h
  obtain ⟨e1, e2, e3, e4, e5, g⟩ := ht.pc h
  have hl := trips_len h
  have a1 := h.a1
  have b1 := h.b1
  rcases Nat.eq_zero_or_pos bd.pcP with z | z
  · have q1 : bd.pcQ = 1 := by rw [z, Nat.gcd_zero_left] at g; exact g
    rw [q1, Nat.one_mul] at e4
    have hB : bd.b.length ≤ bd.pcN := by omega
    have : (tripsK bd).length * bd.b.length ≤ (bd.a.length * 2) * bd.b.length := by
      refine Nat.le_trans (Nat.mul_le_mul_left _ hB) (Nat.le_trans hl ?_)
      rw [Nat.mul_right_comm]; exact Nat.le_refl _
    have := Nat.le_of_mul_le_mul_right this (by omega)
    omega
  · have hA : bd.a.length ≤ bd.pcN := by
      have : bd.a.length ≤ bd.pcP * bd.a.length := Nat.le_mul_of_pos_left _ z
      omega
    have : (tripsK bd).length * bd.a.length ≤ (bd.b.length * 2) * bd.a.length := by
      refine Nat.le_trans (Nat.mul_le_mul_left _ hA) (Nat.le_trans hl ?_)
      rw [Nat.mul_comm bd.a.length, Nat.mul_right_comm]; exact Nat.le_refl _
    have := Nat.le_of_mul_le_mul_right this (by omega)
    omega
theorem pc_cop {bd : Bd} (h : bd.ok) {k : Nat} (hk : 2 ≤ k) (h1 : bd.pcP % k = 0) (h2 : bd.pcQ % k = 0) : False := by
  obtain ⟨s, n, ht⟩ := trip_pc h
  obtain ⟨_, _, _, _, _, g⟩ := ht.pc h
  have := Nat.dvd_gcd (Nat.dvd_of_mod_eq_zero h1) (Nat.dvd_of_mod_eq_zero h2)
  rw [g] at this
  have := Nat.le_of_dvd (by omega) this
  omega
theorem rep_flat {α : Type} (x : α) : ∀ n : Nat, (List.replicate n [x]).flatten = List.replicate n x
  | 0 => rfl
  | n + 1 => by rw [List.replicate_succ, List.flatten_cons, rep_flat x n, List.replicate_succ]; rfl
theorem cutS_min (z : Str) (n : Nat) : (cutS z none (some (n : Int))).length = min n z.length := by
  show (cutS z none (some (n : Int))).cps.size = _
  unfold cutS
  rw [HT.sIx_none, HT.sIx_nat, List.size_toArray, List.length_take, List.length_drop, Array.length_toList]
  show min (min n z.cps.size - 0) (z.cps.size - 0) = min n z.cps.size
  omega
end DL

set_option Elab.async false
set_option linter.all false
set_option maxRecDepth 100000
set_option maxHeartbeats 1000000
namespace DL
open PySem PySem.Spec L2
/-! ## to which ring a thing comes -/
def kvN : List (List (List Key)) → Nat → List (List Key × Da)
  | [], _ => []
  | c :: L, n => (c.map fun k => (k, Da.int (n : Nat))) ++ kvN L (n + 1)
theorem kvN_snoc (c : List (List Key)) : ∀ (L : List (List (List Key))) (n : Nat), kvN (L ++ [c]) n = kvN L n ++ c.map fun k => (k, Da.int ((n + L.length : Nat)))
  | [], n => by show (c.map _) ++ [] = _; rw [List.append_nil]; rfl
  | d :: L, n => by
    rw [List.cons_append]
    show (d.map _) ++ kvN (L ++ [c]) (n + 1) = ((d.map _) ++ kvN L (n + 1)) ++ _
    rw [kvN_snoc c L (n + 1), List.append_assoc, List.length_cons, show n + 1 + L.length = n + (L.length + 1) by omega]
theorem kvN_keys : ∀ (L : List (List (List Key))) (n : Nat), (kvN L n).map (·.1) = L.flatten
  | [], _ => rfl
  | c :: L, n => by
    show ((c.map _) ++ kvN L (n + 1)).map _ = _
    rw [List.map_append, kvN_keys L (n + 1), List.flatten_cons, List.map_map]
    congr 1
    exact List.map_id' c
theorem kvN_mem {k : List Key} : ∀ {L : List (List (List Key))} {n c : Nat} {r : List (List Key)}, L[c]? = some r → k ∈ r → (k, Da.int ((n + c : Nat))) ∈ kvN L n
  | d :: L, n, 0, r, h, hk => by
    cases h
    exact List.mem_append_left _ (List.mem_map_of_mem (f := fun k => (k, Da.int (n : Nat))) hk)
  | d :: L, n, c + 1, r, h, hk => by
    have := kvN_mem (n := n + 1) (c := c) (r := r) (L := L) (by simpa using h) hk
    rw [show n + 1 + c = n + (c + 1) by omega] at this
    exact List.mem_append_right _ this
theorem valD_mem {k : List Key} {d : Da} : ∀ {kvs : List (List Key × Da)}, (kvs.map (·.1)).Nodup → (k, d) ∈ kvs → valD kvs k = some d
  | p :: kvs, nd, h => by
    rw [List.map_cons] at nd
    obtain ⟨n1, n2⟩ := List.nodup_cons.mp nd
    rcases List.mem_cons.mp h with e | e
    · rw [← e]; exact valD_pos (p := (k, d)) rfl
    · have : ¬ p.1 = k := fun z => n1 (by rw [z]; exact List.mem_map_of_mem (f := fun q : List Key × Da => q.1) e)
      rw [valD_neg this]; exact valD_mem n2 e
theorem kvN_len (L : List (List (List Key))) (n : Nat) : (kvN L n).length = L.flatten.length := by
  rw [← kvN_keys L n, List.length_map]
/-- it comes to the c-th ring behind n steps, no sooner -/
structure Come (f : List Key → List Key) (L : List (List (List Key))) (x : List Key) (n c : Nat) : Prop where
  ring : ∃ r, L[c]? = some r ∧ itR f x n ∈ r
  first : ∀ m, m < n → itR f x m ∉ L.flatten
theorem Come.uniq {f : List Key → List Key} {ks L : List (List (List Key))} {kk : List (List Key)} (h : Rgs kk f L) {x : List Key} {n c n' c' : Nat} (a : Come f L x n c) (b : Come f L x n' c') : n = n' ∧ c = c' := by
  obtain ⟨r, a1, a2⟩ := a.ring
  obtain ⟨r', b1, b2⟩ := b.ring
  have en : n = n' := by
    rcases Nat.lt_trichotomy n n' with z | z | z
    · exact absurd (List.mem_flatten.mpr ⟨r, List.mem_of_getElem? a1, a2⟩) (b.first n z)
    · exact z
    · exact absurd (List.mem_flatten.mpr ⟨r', List.mem_of_getElem? b1, b2⟩) (a.first n' z)
  subst en
  refine ⟨rfl, ?_⟩
  obtain ⟨l1, g1⟩ := List.getElem?_eq_some_iff.mp a1
  obtain ⟨l2, g2⟩ := List.getElem?_eq_some_iff.mp b1
  have pw := List.pairwise_iff_getElem.mp h.dj
  rcases Nat.lt_trichotomy c c' with z | z | z
  · exact absurd (by rw [g2]; exact b2) (pw c c' l1 l2 z _ (by rw [g1]; exact a2))
  · exact z
  · exact absurd (by rw [g1]; exact a2) (pw c' c l2 l1 z _ (by rw [g2]; exact b2))
theorem come_ex {f : List Key → List Key} {kk : List (List Key)} {L : List (List (List Key))} (h : Rgs kk f L) {x : List Key} (hx : x ∈ kk) : ∃ N, itR f x N ∈ L.flatten := by
  obtain ⟨n, c, hc, hn⟩ := h.rch x hx
  exact ⟨n, List.mem_flatten.mpr ⟨c, hc, hn⟩⟩
theorem bv_iaddI {X : Cx} {rs : List Res} {Q : EQ} {i j : Int} (q : Q (.sh (.int (i + j))) rs) : BV X (inplaceOp .Add) (.sh (.int i)) (.sh (.int j)) rs Q := bv_I0 iop_add (fun _ _ => .int _) q
end DL

set_option Elab.async false
set_option linter.all false
set_option maxRecDepth 100000
set_option maxHeartbeats 1000000
namespace DL
open PySem PySem.Spec L2
/-! ## the pace in numbers; walks in their trips -/
structure Bd.PcOk (bd : Bd) : Prop where
  sum : bd.pcP * bd.a.length + bd.pcQ * bd.b.length = bd.pcN
  pos : 0 < bd.pcN
  le : bd.pcN ≤ 80000
  p : bd.pcP ≤ 80000
  q : bd.pcQ ≤ 80000
  cop : Nat.gcd bd.pcP bd.pcQ = 1
theorem Bd.ok.pc {bd : Bd} (h : bd.ok) : bd.PcOk := by
  obtain ⟨s, n, ht⟩ := trip_pc h
  obtain ⟨e1, e2, e3, e4, e5, g⟩ := ht.pc h
  have a1 := h.a1
  have b1 := h.b1
  have hl := trips_len h
  have hs := h.size
  have hne : 1 ≤ (tripsK bd).length := List.length_pos_iff.mpr (trips_ne h)
  have : 1 * bd.pcN ≤ (tripsK bd).length * bd.pcN := Nat.mul_le_mul_right _ hne
  have hp : bd.pcP ≤ bd.pcP * bd.a.length := Nat.le_mul_of_pos_right _ a1
  have hq : bd.pcQ ≤ bd.pcQ * bd.b.length := Nat.le_mul_of_pos_right _ b1
  have := ht.pos
  exact ⟨by omega, by omega, by omega, by omega, by omega, g⟩
/-- a walk come to a ring is in a trip -/
theorem come_trip {bd : Bd} (h : bd.ok) {s : Sd} (hs : s.ok bd) {n c : Nat} (hc : Come (tkK bd) (tripsK bd) s.key n c) : bd.Trip (bd.go s n) bd.pcN := by
  obtain ⟨r, h1, h2⟩ := hc.ring
  rw [itK] at h2
  obtain ⟨s', ht, e⟩ := trip_of h (List.mem_of_getElem? h1)
  rw [e] at h2
  obtain ⟨x, hx, ex⟩ := List.mem_map.mp h2
  have ex := Sd.key_inj ex
  subst ex
  unfold Bd.line at hx
  obtain ⟨t, _, et⟩ := List.mem_map.mp hx
  rw [← et, ← (ht.pc h).1]
  exact (ht.shift h t).1
theorem Bd.Trip.on {bd : Bd} (h : bd.ok) {s : Sd} (ht : bd.Trip s bd.pcN) (t m : Nat) : bd.go s (t + m * bd.pcN) = bd.go s t ∧ bd.F s (t + m * bd.pcN) = bd.F s t + m * (bd.pcP * bd.a.length) := by
  obtain ⟨h2, e2⟩ := ht.shift h t
  obtain ⟨p1, p2, p3, _⟩ := ht.pc h
  have l := Bd.laps h2.back m
  rw [Bd.go_add, Bd.F_add, l.1, l.2.1, e2, p2, p3]
  exact ⟨rfl, rfl⟩
/-- .. and so behind it -/
theorem come_later {bd : Bd} (h : bd.ok) {s : Sd} (hs : s.ok bd) {n c : Nat} (hc : Come (tkK bd) (tripsK bd) s.key n c) (e : Nat) : Come (tkK bd) (tripsK bd) (bd.go s (n + e)).key 0 c := by
  obtain ⟨r, h1, h2⟩ := hc.ring
  refine ⟨⟨r, h1, ?_⟩, fun m hm => absurd hm (Nat.not_lt_zero m)⟩
  have := ((tripsK_rgs h).cyc r (List.mem_of_getElem? h1)).nexts h2 e
  rw [← itR_add, itK] at this
  exact this
end DL

set_option Elab.async false
set_option linter.all false
set_option maxRecDepth 100000
set_option maxHeartbeats 4000000
namespace DL
open PySem PySem.Spec L2
open PyProof.Rows (envOfC)
/-! ## dicts that hold things of ours -/
theorem RpK.len {K : PySem.W.Frag} {T : Tw} : ∀ {kv : List (Key × V)} {kr : List (Key × Rv)}, RpK K T kv kr → kv.length = kr.length
  | _, _, .nil => rfl
  | _, _, .cons _ t => by rw [List.length_cons, List.length_cons, RpK.len t]
theorem RpK.val {K : PySem.W.Frag} {T : Tw} {k : Key} {r : Rv} : ∀ {kv : List (Key × V)} {kr : List (Key × Rv)}, RpK K T kv kr → valD kr k = some r → ∃ v, valV kv k = some v ∧ RpV K T v r
  | _, _, .nil, e => by cases e
  | _, _, .cons (k := k') a t, e => by
    by_cases h : k' = k
    · rw [valD_pos h] at e
      cases e
      exact ⟨_, valV_pos h, a⟩
    · rw [valD_neg h] at e
      rw [valV_neg h]; exact RpK.val t e
theorem RpK.any {K : PySem.W.Frag} {T : Tw} {k : Key} : ∀ {kv : List (Key × V)} {kr : List (Key × Rv)}, RpK K T kv kr → (kv.any fun p => decide (p.1 = k)) = (kr.any fun p => decide (p.1 = k))
  | _, _, .nil => rfl
  | _, _, .cons _ t => by rw [List.any_cons, List.any_cons, RpK.any t]
theorem RpK.app {K : PySem.W.Frag} {T : Tw} : ∀ {kv kv' : List (Key × V)} {kr kr' : List (Key × Rv)}, RpK K T kv kr → RpK K T kv' kr' → RpK K T (kv ++ kv') (kr ++ kr')
  | _, _, _, _, .nil, s => s
  | _, _, _, _, .cons r t, s => .cons r (RpK.app t s)
theorem RpK.repl {K : PySem.W.Frag} {T : Tw} {k : Key} {v : V} {d : Rv} (r : RpV K T v d) : ∀ {kv : List (Key × V)} {kr : List (Key × Rv)}, RpK K T kv kr → RpK K T (kv.map fun p => if p.1 = k then (p.1, v) else p) (kr.map fun p => if p.1 = k then (p.1, d) else p)
  | _, _, .nil => .nil
  | _, _, .cons (k := k') a t => by
    rw [List.map_cons, List.map_cons]
    by_cases e : k' = k
    · rw [if_pos e, if_pos e]; exact .cons r (RpK.repl r t)
    · rw [if_neg e, if_neg e]; exact .cons a (RpK.repl r t)
theorem RpK.put {K : PySem.W.Frag} {T : Tw} {k : Key} {v : V} {d : Rv} (r : RpV K T v d) {kv : List (Key × V)} {kr : List (Key × Rv)} (h : RpK K T kv kr) : RpK K T (putK kv k v) (putD kr k d) := by
  unfold putK putD
  rw [h.any]
  split
  · exact h.repl r
  · exact h.app (.cons r .nil)
section
variable {X : Cx} {sl : Sl} {rs rs2 : List Res} {Q : EQ} {e : Expr} {es : List Expr} {sts : List Stmt} {R : Out} {k : Nat} {pos : Pos}
theorem xv_dKR {kr : List (Key × Rv)} {kd : Da} {kk : Key} {r : Rv} (hu : Un X) (h : rs[k]? = some (.dKR kr)) (hk : keyD kd = some kk) (hv : valD kr kk = some r) (q : Q r rs) : XV X (.rf k) (.sh kd) rs Q := ⟨fun T H v1 v2 R p1 p2 => by
  refine xvS.of (ix_dict (by have := hu; unfold Un at this; omega)) ?_
  obtain ⟨ho, kv, hd, rt⟩ := R.rs _ _ h
  have e1 := keyD_v p2 hk
  obtain ⟨v, ev, rv⟩ := rt.val hv
  have g := DGet.k (k := kk) hd
  rw [ev] at g
  exact ⟨_, v, p1.2, by rw [e1]; exact g, epost R rv q⟩⟩
/-- d[k] = v -/
theorem s_dputR {o i e : Expr} {pos p2 : Pos} {R : Out} (hu : Un X) (h : EW X sl e rs fun rv rs1 => EW X sl o rs1 fun r0 rs2 => EW X sl i rs2 fun ri rs3 => ∃ k kr kd kk, r0 = .rf k ∧ rs3[k]? = some (.dKR kr) ∧ kr.length < 100000 ∧ ri = .sh kd ∧ keyD kd = some kk ∧ R.nx sl (rs3.set k (.dKR (putD kr kk rv))))
    (ha : ∀ v, assign (.Subscript o i p2) X.env v = (do
      let ov ← holding [v] (eval o X.env)
      let iv ← holding [v, ov] (eval i X.env)
      standAt p2
      holding [v, ov, iv] (setItem ov iv v)
      release [v, ov, iv] []) := by intro _; rfl) (hs : swapsWithSole [.Subscript o i p2] e pos.line X.env = pure false := by rfl) (hw : swappedStores [.Subscript o i p2] e X.env = pure none := by rfl)
    (h1 : (assignEach [.Subscript o i p2] X.env).map (·.2) = [assign (.Subscript o i p2) X.env] := by rfl) : S1 X sl (.Assign [.Subscript o i p2] e pos) rs R :=
  s1_of (ps_asg pe_S (pg_sub pe_S pe_S (set_dict (by have := hu; unfold Un at this; omega)) ha) hs hw h1) fun T σ H hR S => then1 h hR S fun T1 rs1 rv v H1 l1 R1 p1 q1 => then1 q1 R1 (S.le l1) fun T2 rs2 r0 v0 H2 l2 R2 p2 q2 => then1 q2 R2 (S.le (l1.trans l2)) fun T3 rs3 ri vi H3 l3 R3 p3 q3 => by
    have ll := (l1.trans l2).trans l3
    have pv := p1.le (l2.trans l3)
    have po := p2.le l3
    obtain ⟨k, kr, kd, kk, e1, e2, hl, e3, hk, q⟩ := q3
    subst e1 e3
    obtain ⟨ho, kv, hd, rt⟩ := R3.rs _ _ e2
    have e5 := keyD_v p3 hk
    subst e5
    exact ⟨_, _, po.2, DPut.k (k := kk) hd (by rw [rt.len]; exact Nat.lt_of_lt_of_le hl (by decide)), T3, sl, _, ll, R3.write (r' := .dKR _) ho ⟨ho, _, upd_same, rt.put pv⟩ (List.getElem?_eq_some_iff.mp e2).1, S.le ll, q⟩
theorem inop_S {op : Operator} : InOp X op (fun x y H Q => opS X (inplaceOp op) x y H Q) := fun pins s σ H x y v u Q I rx ry h => h pins s σ v u I rx ry
/-- d[k] op= e -/
theorem s_daugR {o i e : Expr} {op : Operator} {p2 : Pos} (hu : Un X) (h : EW X sl o rs fun r0 rs1 => EW X sl i rs1 fun ri rs2 => ∃ k kr kd kk r, r0 = .rf k ∧ rs2[k]? = some (.dKR kr) ∧ kr.length < 100000 ∧ ri = .sh kd ∧ keyD kd = some kk ∧ valD kr kk = some r ∧ EW X sl e rs2 fun r2 rs3 => BV X (inplaceOp op) r r2 rs3 fun r3 rs4 => rs4[k]? = some (.dKR kr) ∧ R.nx sl (rs4.set k (.dKR (putD kr kk r3))))
    (ha : ∀ ov iv new, augStore i ov iv new = (do holding [new, ov, iv] (setItem ov iv new); release [new, ov, iv] []; pure .next) := by intros; rfl) : S1 X sl (.AugAssign (.Subscript o i p2) op e pos) rs R :=
  s1_of (ps_daug (by have := hu; unfold Un at this; omega) pe_S pe_S pe_S inop_S ha) fun T σ H hR S => then1 h hR S fun T1 rs1 r0 v0 H1 l1 R1 p1 q1 => then1 q1 R1 (S.le l1) fun T2 rs2 ri vi H2 l2 R2 p2 q2 => by
    obtain ⟨k, kr, kd, kk, r, e1, e2, hl, e3, hk, hv, q3⟩ := q2
    subst e1 e3
    obtain ⟨ho, kv, hd, rt⟩ := R2.rs _ _ e2
    have e5 := keyD_v p2 hk
    subst e5
    obtain ⟨v, ev, rv⟩ := rt.val hv
    have g := DGet.k (k := kk) hd
    rw [ev] at g
    refine ⟨_, v, (p1.le l2).2, g, then1 q3 R2 (S.le (l1.trans l2)) fun T3 rs3 r2 v2 H3 l3 R3 p3 q4 pins s σ' u1 u2 I i1 i2 => ?_⟩
    refine thn (q4.go T3 H3 v v2 R3 (rv.le l3) p3 pins s σ' u1 u2 I i1 i2) ?_
    rintro u s' ⟨v', H', I', rl, T4, rs4, r3, l4, R4, p4, e6, q⟩
    obtain ⟨ho4, kv4, hd4, rt4⟩ := R4.rs _ _ e6
    have ll := l1.trans (l2.trans (l3.trans l4))
    have ead : T4.ad k = T2.ad k := (l3.trans l4).ad k (R2.lt e2)
    refine ⟨v', H', I', rl, _, ?_, T4, sl, _, ll, R4.write (r' := .dKR _) ho4 ⟨ho4, _, upd_same, rt4.put p4⟩ (List.getElem?_eq_some_iff.mp e6).1, S.le ll, q⟩
    rw [← ead]
    exact DPut.k (k := kk) hd4 (by rw [rt4.len]; exact Nat.lt_of_lt_of_le hl (by decide))
abbrev bagK (m : Nat) (n u f : Int) : List (Key × Rv) := [(.inr "great", .rf m), (.inr "left", .sh (.int n)), (.inr "turn", .sh (.int u)), (.inr "fold", .sh (.int f))]
theorem open3 {K : PySem.W.Frag} {T : Tw} {H : Hp} (R : RepH K T rs H) {b : Nat} (h : rs[k]? = some (.tray 3 b)) : ∃ (T' : Tw) (gs : List Int) (n f u : Int), gs.length ≤ 63 ∧ 0 ≤ f ∧ f < 2 ^ 61 ∧ 0 ≤ u ∧ u ≤ b ∧ T.le T' ∧
    RepH K T' (rs.set k (.dKR (bagK rs.length n u f)) ++ [.lst (gs.map Da.int)]) H := by
  obtain ⟨h1, g, gs, n, f, u, h2, h3, h4, h5, h6, h7, h8, h9, h10⟩ := R.rs _ _ h
  have hk : k < rs.length := (List.getElem?_eq_some_iff.mp h).1
  have kn : k ≠ T.n := by rw [← R.n]; omega
  have le0 : T.le (T.opn g) := ⟨.refl _, rfl, Nat.le_succ _, fun j hj => if_neg (by omega)⟩
  have ownG : (T.opn g).own g = some T.n := if_pos rfl
  have adN : (T.opn g).ad T.n = g := if_pos rfl
  refine ⟨T.opn g, gs, n, f, u, h6, h7, h8, h9, h10, le0, by rw [List.length_append, List.length_set, R.n]; rfl, R.h0, R.fr, fun a j e => ?_, R.df, fun j r e => ?_, R.tu⟩
  · by_cases ha : a = g
    · subst ha; exact R.dj a k h2
    · exact R.dj a j (by rw [← e]; exact (if_neg ha).symm)
  · by_cases hj : j < rs.length
    · rw [List.getElem?_append_left (by rw [List.length_set]; exact hj)] at e
      by_cases hkj : k = j
      · subst hkj
        rw [List.getElem?_set_self hk] at e
        cases e
        refine ⟨?_, _, ?_, .cons (v := .ref g) ⟨?_, ?_⟩ (.cons (.int n) (.cons (.int u) (.cons (.int f) .nil)))⟩
        · show (if (if k = T.n then g else T.ad k) = g then some T.n else T.own (if k = T.n then g else T.ad k)) = some k
          rw [if_neg kn, if_neg (Ne.symm h3)]; exact h1
        · show H (if k = T.n then g else T.ad k) = _
          rw [if_neg kn]; exact h4
        · rw [R.n]; exact Nat.lt_succ_self _
        · rw [R.n]; exact congrArg V.ref adN.symm
      · rw [List.getElem?_set_ne hkj] at e
        refine (R.rs j r e).keep le0 (R.lt e) fun a ha => ⟨?_, fun _ q => q⟩
        show (if a = g then some T.n else T.own a) = some j
        rw [if_neg (fun z => hkj (by rw [z] at ha; rw [ha] at h2; exact (Option.some.inj h2).symm))]; exact ha
    · have hj2 : j = rs.length := by
        have := (List.getElem?_eq_some_iff.mp e).1
        rw [List.length_append, List.length_set, List.length_singleton] at this
        omega
      subst hj2
      rw [List.getElem?_append_right (by rw [List.length_set]; exact Nat.le_refl _), List.length_set, Nat.sub_self] at e
      have e : Res.lst (gs.map Da.int) = r := Option.some.inj e
      subst e
      rw [R.n]
      exact ⟨by rw [adN]; exact ownG, _, by rw [adN]; exact h5, Rps.ofInts gs⟩
theorem sw_open3 {bd : Nat} (h : rs[k]? = some (.tray 3 bd)) (hh : ∀ (gs : List Int) (n f u : Int), gs.length ≤ 63 → 0 ≤ f → f < 2 ^ 61 → 0 ≤ u → u ≤ bd → SW X sl sts (rs.set k (.dKR (bagK rs.length n u f)) ++ [.lst (gs.map Da.int)]) R) : SW X sl sts rs R := ⟨fun T σ H a b => by
  obtain ⟨T', gs, n, f, u, h1, h2, h3, h4, h5, l, R'⟩ := open3 a h
  exact (SW.go (hh gs n f u h1 h2 h3 h4 h5) T' σ H R' (b.le l)).mono (dof.le l R)⟩
theorem close3 {K : PySem.W.Frag} {m bd : Nat} {gs : List Int} {n f u : Int} (h : rs[k]? = some (.dKR (bagK m n u f))) (hm : rs[m]? = some (.lst (gs.map Da.int))) (hl : gs.length ≤ 63) (h1 : 0 ≤ f) (h2 : f < 2 ^ 61) (h3 : 0 ≤ u) (h4 : u ≤ bd) :
    Gh K rs ((rs.set k (.tray 3 bd)).set m .off) := fun T H R => by
  obtain ⟨a1, vs, a2, a3⟩ := R.rs _ _ h
  obtain ⟨b1, ws, b2, b3⟩ := R.rs _ _ hm
  have hkm : k ≠ m := fun z => by subst z; rw [h] at hm; cases hm
  have hk := (List.getElem?_eq_some_iff.mp h).1
  have hml := (List.getElem?_eq_some_iff.mp hm).1
  have adne : T.ad k ≠ T.ad m := fun z => by rw [z, b1] at a1; exact hkm (Option.some.inj a1).symm
  have ew := b3.toInts
  subst ew
  have ev : vs = [(.inr "great", .ref (T.ad m)), (.inr "left", .int n), (.inr "turn", .int u), (.inr "fold", .int f)] := by
    cases a3 with
    | cons p1 t1 => cases t1 with
      | cons p2 t2 => cases t2 with
        | cons p3 t3 => cases t3 with
          | cons p4 t4 => cases t4; rw [p1.2, intOf p2, intOf p3, intOf p4]
  subst ev
  have le0 : T.le { T with own := fun a => if a = T.ad m then some k else T.own a } := ⟨.refl _, rfl, Nat.le_refl _, fun _ _ => rfl⟩
  refine ⟨{ T with own := fun a => if a = T.ad m then some k else T.own a }, le0, by rw [List.length_set, List.length_set]; exact R.n, R.h0, R.fr, fun a j e => ?_, R.df, fun j r e => ?_, R.tu⟩
  · by_cases ha : a = T.ad m
    · subst ha; exact R.dj _ m b1
    · exact R.dj a j (by rw [← e]; exact (if_neg ha).symm)
  · by_cases hjm : m = j
    · subst hjm
      rw [List.getElem?_set_self (by rw [List.length_set]; exact hml)] at e
      cases e; trivial
    · rw [List.getElem?_set_ne hjm] at e
      by_cases hjk : k = j
      · subst hjk
        rw [List.getElem?_set_self hk] at e
        cases e
        refine ⟨by show (if T.ad k = T.ad m then some k else T.own (T.ad k)) = some k; rw [if_neg adne]; exact a1, T.ad m, gs, n, f, u, if_pos rfl, Ne.symm adne, a2, b2, hl, h1, h2, h3, h4⟩
      · rw [List.getElem?_set_ne hjk] at e
        refine (R.rs j r e).keep le0 (R.lt e) fun a ha => ⟨?_, fun _ q => q⟩
        show (if a = T.ad m then some k else T.own a) = some j
        rw [if_neg (fun z => hjm (by rw [z, b1] at ha; exact Option.some.inj ha))]; exact ha
end
end DL

set_option Elab.async false
set_option linter.all false
set_option maxRecDepth 100000
set_option maxHeartbeats 4000000
namespace DL
open PySem PySem.Spec L2
/-! ## the bag's own keys -/
section
variable {X : Cx} {rs : List Res} {Q : EQ} {k m : Nat} {n u f : Int}
theorem kGL : ¬ ((.inr "great" : Key) = .inr "left") := by decide +kernel
theorem kGT : ¬ ((.inr "great" : Key) = .inr "turn") := by decide +kernel
theorem kGF : ¬ ((.inr "great" : Key) = .inr "fold") := by decide +kernel
theorem kLG : ¬ ((.inr "left" : Key) = .inr "great") := by decide +kernel
theorem kLT : ¬ ((.inr "left" : Key) = .inr "turn") := by decide +kernel
theorem kLF : ¬ ((.inr "left" : Key) = .inr "fold") := by decide +kernel
theorem kTL : ¬ ((.inr "turn" : Key) = .inr "left") := by decide +kernel
theorem kTG : ¬ ((.inr "turn" : Key) = .inr "great") := by decide +kernel
theorem kTF : ¬ ((.inr "turn" : Key) = .inr "fold") := by decide +kernel
theorem kFL : ¬ ((.inr "fold" : Key) = .inr "left") := by decide +kernel
theorem kFT : ¬ ((.inr "fold" : Key) = .inr "turn") := by decide +kernel
theorem kFG : ¬ ((.inr "fold" : Key) = .inr "great") := by decide +kernel
theorem bag_great : valD (bagK m n u f) (.inr "great") = some (.rf m) := valD_pos rfl
theorem bag_left : valD (bagK m n u f) (.inr "left") = some (.sh (.int n)) := by
  unfold bagK; rw [valD_neg kGL]; exact valD_pos rfl
theorem bag_turn : valD (bagK m n u f) (.inr "turn") = some (.sh (.int u)) := by
  unfold bagK; rw [valD_neg kGT, valD_neg kLT]; exact valD_pos rfl
theorem bag_fold : valD (bagK m n u f) (.inr "fold") = some (.sh (.int f)) := by
  unfold bagK; rw [valD_neg kGF, valD_neg kLF, valD_neg kTF]; exact valD_pos rfl
theorem put_left {n' : Int} : putD (bagK m n u f) (.inr "left") (.sh (.int n')) = bagK m n' u f := by
  unfold putD
  rw [valD_any, bag_left]
  simp only [Option.isSome, if_true, bagK, List.map_cons, List.map_nil, if_neg kGL, if_neg kTL, if_neg kFL]
theorem put_turn {n' : Int} : putD (bagK m n u f) (.inr "turn") (.sh (.int n')) = bagK m n n' f := by
  unfold putD
  rw [valD_any, bag_turn]
  simp only [Option.isSome, if_true, bagK, List.map_cons, List.map_nil, if_neg kGT, if_neg kLT, if_neg kFT]
theorem xv_great (hu : Un X) (h : rs[k]? = some (.dKR (bagK m n u f))) (q : Q (.rf m) rs) : XV X (.rf k) (.sh (.str "great")) rs Q := xv_dKR hu h rfl bag_great q
theorem xv_left (hu : Un X) (h : rs[k]? = some (.dKR (bagK m n u f))) (q : Q (.sh (.int n)) rs) : XV X (.rf k) (.sh (.str "left")) rs Q := xv_dKR hu h rfl bag_left q
theorem xv_turn (hu : Un X) (h : rs[k]? = some (.dKR (bagK m n u f))) (q : Q (.sh (.int u)) rs) : XV X (.rf k) (.sh (.str "turn")) rs Q := xv_dKR hu h rfl bag_turn q
theorem xv_fold (hu : Un X) (h : rs[k]? = some (.dKR (bagK m n u f))) (q : Q (.sh (.int f)) rs) : XV X (.rf k) (.sh (.str "fold")) rs Q := xv_dKR hu h rfl bag_fold q
theorem bagK_nodup {r : Rv} : (([(.inr "great", r), (.inr "left", .sh (.int n)), (.inr "turn", .sh (.int u)), (.inr "fold", .sh (.int f))] : List (Key × Rv)).map (·.1)).Nodup := by
  show ([.inr "great", .inr "left", .inr "turn", .inr "fold"] : List Key).Nodup
  decide +kernel
end
theorem gh_tray3 {rs : List Res} {k : Nat} {K : PySem.W.Frag} {m m' : Nat} (h : rs[k]? = some (.tray 3 m)) (hm : m ≤ m') : Gh K rs (rs.set k (.tray 3 m')) := fun T H R => ⟨T, .refl T, by rw [List.length_set]; exact R.n, R.h0, R.fr, R.dj, R.df, fun j r e => by
  by_cases hj : k = j
  · subst hj
    rw [List.getElem?_set_self (List.getElem?_eq_some_iff.mp h).1] at e
    cases e
    obtain ⟨h1, g, gs, n, f, u, h2, h3, h4, h5, h6, h7, h8, h9, h10⟩ := R.rs _ _ h
    exact ⟨h1, g, gs, n, f, u, h2, h3, h4, h5, h6, h7, h8, h9, by omega⟩
  · rw [List.getElem?_set_ne hj] at e; exact R.rs j r e, R.tu⟩
theorem divW {i j : Int} (h1 : 1 ≤ j) (h2 : j < 10 ^ 62) : CDivW i j := by
  refine ⟨by omega, (Nat.log2_lt (by omega) (k := 9000)).mpr (Nat.lt_of_lt_of_le (show j.natAbs < 2 ^ 256 by omega) (Nat.pow_le_pow_right (by decide) (by decide)))⟩
/-- a draw from a bag -/
def preBDraw (ds : List Da) : Prop := ∃ m : Int, ds = [.int m] ∧ 1 ≤ m ∧ m < 10 ^ 62
abbrev ctBDraw : Ct := ctT 3 1 preBDraw postDraw
theorem kc_bdraw {rs : List Res} {Q : EQ} {n j : Nat} {m : Int} (hj : rs[j]? = some (.tray 3 n)) (h1 : 1 ≤ m) (h2 : m < 10 ^ 62) (hn : n + 1 < 2 ^ 30) (q : ∀ r : Int, 0 ≤ r → r < m → Q (.sh (.int r)) (rs.set j (.tray 3 (n + 1)))) : Kc ctBDraw [.rf j, .sh (.int m)] rs Q :=
  kc_T hj (.cons .nil) hn ⟨m, rfl, h1, h2⟩ fun d ⟨m', r, e1, e2, h3, h4⟩ => by
    cases e1; subst e2
    exact q r h3 h4
end DL

set_option Elab.async false
set_option linter.all false
set_option maxRecDepth 100000
set_option maxHeartbeats 1000000
namespace DL
open PySem PySem.Spec L2
/-! ## a rule with more of the first reader -/
structure Bd.Le (bd bd' : Bd) : Prop where
  a : bd'.a.length = bd.a.length
  b : bd'.b.length = bd.b.length
  f : ∀ i j, i < bd.a.length → j < bd.b.length → bd.wd i j = "first" → bd'.wd i j = "first"
  o : ∀ i j, i < bd.a.length → j < bd.b.length → bd.wd i j = "other" → bd'.wd i j ≠ "second"
  w : ∀ i j, isW (bd'.wd i j)
theorem Bd.Le.fL {bd bd' : Bd} (h : bd.Le bd') (hok : bd.ok) {i y : Nat} {f f' : Bool} (hf : f = false → f' = false) (e : bd.fL i y f = true) : bd'.fL i y f' = true := by
  have a1 := hok.a1
  have b1 := hok.b1
  have hi : i % bd.a.length < bd.a.length := Nat.mod_lt _ (by omega)
  have hj : y % bd.b.length < bd.b.length := Nat.mod_lt _ (by omega)
  unfold Bd.fL at e ⊢
  rw [h.a, h.b]
  have e : (decide (bd.wd (i % bd.a.length) (y % bd.b.length) = "first") || (decide (bd.wd (i % bd.a.length) (y % bd.b.length) = "other") && !f)) = true := e
  show (decide (bd'.wd (i % bd.a.length) (y % bd.b.length) = "first") || (decide (bd'.wd (i % bd.a.length) (y % bd.b.length) = "other") && !f')) = true
  rw [Bool.or_eq_true, Bool.and_eq_true] at e
  rw [Bool.or_eq_true, Bool.and_eq_true]
  rcases e with e | ⟨e1, e2⟩
  · exact .inl (decide_eq_true (h.f _ _ hi hj (of_decide_eq_true e)))
  · have h1 := h.o _ _ hi hj (of_decide_eq_true e1)
    rcases h.w (i % bd.a.length) (y % bd.b.length) with w | w | w
    · exact .inl (decide_eq_true w)
    · exact absurd w h1
    · refine .inr ⟨decide_eq_true w, ?_⟩
      rw [hf (by cases f <;> simp_all)]; rfl
theorem Bd.Le.F {bd bd' : Bd} (h : bd.Le bd') (hok : bd.ok) (hok' : bd'.ok) {s : Sd} (hs : s.ok bd) : ∀ t, bd.F s t < bd'.F s t ∨ (bd.F s t = bd'.F s t ∧ ((bd.go s t).f = false → (bd'.go s t).f = false))
  | 0 => .inr ⟨rfl, id⟩
  | t + 1 => by
    have hs' : s.ok bd' := ⟨by rw [h.a]; exact hs.1, by rw [h.b]; exact hs.2⟩
    have e1 : (bd.go s (t + 1)).f = bd.fst (bd.go s t) := Bd.tick_f _ _
    have e2 : (bd'.go s (t + 1)).f = bd'.fst (bd'.go s t) := Bd.tick_f _ _
    rw [e1, e2, Bd.F_succ, Bd.F_succ]
    rcases h.F hok hok' hs t with l | ⟨l, hl⟩
    · cases bd.fst (bd.go s t) <;> cases bd'.fst (bd'.go s t) <;> simp <;> omega
    · have k : bd.fst (bd.go s t) = true → bd'.fst (bd'.go s t) = true := fun z => by
        rw [Bd.fst_at hok hs] at z
        rw [Bd.fst_at hok' hs', ← l]
        exact h.fL hok hl z
      rw [← l]
      cases e3 : bd.fst (bd.go s t)
      · cases bd'.fst (bd'.go s t) <;> simp
      · rw [k e3]; simp
theorem Bd.Le.F_le {bd bd' : Bd} (h : bd.Le bd') (hok : bd.ok) (hok' : bd'.ok) {s : Sd} (hs : s.ok bd) (t : Nat) : bd.F s t ≤ bd'.F s t := by
  rcases h.F hok hok' hs t with l | ⟨l, _⟩ <;> omega
theorem come_trip0 {bd : Bd} (h : bd.ok) {s : Sd} (hs : s.ok bd) : ∃ n, bd.Trip (bd.go s n) bd.pcN := by
  obtain ⟨n, c, hc, hn⟩ := (tripsK_rgs h).rch _ (stKs_mem hs)
  rw [itK] at hn
  obtain ⟨s', ht, e⟩ := trip_of h hc
  rw [e] at hn
  obtain ⟨x, hx, ex⟩ := List.mem_map.mp hn
  have ex := Sd.key_inj ex
  subst ex
  unfold Bd.line at hx
  obtain ⟨t, _, et⟩ := List.mem_map.mp hx
  rw [← (ht.pc h).1] at *
  exact ⟨n, by rw [← et]; exact (ht.shift h t).1⟩
theorem come_F {bd : Bd} (h : bd.ok) {s : Sd} {n : Nat} (ht : bd.Trip (bd.go s n) bd.pcN) (m : Nat) : bd.F s (n + m * bd.pcN) = bd.F s n + m * (bd.pcP * bd.a.length) := by
  have := (ht.on h 0 m).2
  rw [Nat.zero_add, Bd.F_zero, Nat.zero_add] at this
  rw [Bd.F_add, this]
theorem Bd.Le.pace {bd bd' : Bd} (h : bd.Le bd') (hok : bd.ok) (hok' : bd'.ok) : bd.pcP * bd'.pcQ ≤ bd'.pcP * bd.pcQ := by
  have a1 := hok.a1
  have b1 := hok.b1
  have hs : (⟨0, 0, true⟩ : Sd).ok bd := ⟨by show 0 < _; omega, by show 0 < _; omega⟩
  generalize (⟨0, 0, true⟩ : Sd) = s at hs
  have hs' : s.ok bd' := ⟨by rw [h.a]; exact hs.1, by rw [h.b]; exact hs.2⟩
  obtain ⟨n, tn⟩ := come_trip0 hok hs
  obtain ⟨n', tn'⟩ := come_trip0 hok' hs'
  have key : ∀ m, m * (bd'.pcN * (bd.pcP * bd.a.length)) ≤ m * (bd.pcN * (bd'.pcP * bd'.a.length)) + (bd'.F s n' + n) := fun m => by
    have e1 := come_F hok tn (m * bd'.pcN)
    have e2 := come_F hok' tn' (m * bd.pcN)
    have ec : m * bd.pcN * bd'.pcN = m * bd'.pcN * bd.pcN := by rw [Nat.mul_right_comm]
    rw [ec] at e2
    have l1 := h.F_le hok hok' hs (n + m * bd'.pcN * bd.pcN)
    have l2 : bd'.F s (n + m * bd'.pcN * bd.pcN) ≤ bd'.F s (n' + m * bd'.pcN * bd.pcN) + n := by
      by_cases hl : n ≤ n'
      · have := Bd.F_mono (bd := bd') (s := s) (show n + m * bd'.pcN * bd.pcN ≤ n' + m * bd'.pcN * bd.pcN by omega)
        omega
      · have := Bd.F_le1 (bd := bd') (s := s) (show n' + m * bd'.pcN * bd.pcN ≤ n + m * bd'.pcN * bd.pcN by omega)
        omega
    rw [← Nat.mul_assoc m bd'.pcN, ← Nat.mul_assoc m bd.pcN]
    omega
  have l := slope_le (d := 0) (a := bd'.pcN * (bd.pcP * bd.a.length)) (b := bd.pcN * (bd'.pcP * bd'.a.length)) key
  have s1 := hok.pc.sum
  have s2 := hok'.pc.sum
  rw [h.a] at l s2
  rw [h.b] at s2
  rw [← s1, ← s2, ← Nat.mul_assoc, ← Nat.mul_assoc] at l
  have l := Nat.le_of_mul_le_mul_right l (by omega)
  rw [Nat.add_mul, Nat.add_mul] at l
  have x1 : bd'.pcP * bd.a.length * bd.pcP = bd.pcP * bd.a.length * bd'.pcP := by rw [Nat.mul_right_comm, Nat.mul_comm bd'.pcP bd.pcP, Nat.mul_right_comm]
  have l : bd'.pcQ * bd.b.length * bd.pcP ≤ bd.pcQ * bd.b.length * bd'.pcP := by omega
  rw [Nat.mul_right_comm, Nat.mul_right_comm bd.pcQ] at l
  have l := Nat.le_of_mul_le_mul_right l (by omega)
  rw [Nat.mul_comm bd.pcP, Nat.mul_comm bd'.pcP]
  exact l
theorem pace_no_first {bd : Bd} (h : bd.ok) (hf : ∀ i j, i < bd.a.length → j < bd.b.length → bd.wd i j = "second") : bd.pcP = 0 ∧ bd.pcQ = 1 := by
  obtain ⟨s, n, t⟩ := trip_pc h
  have a1 := h.a1
  have F0 : ∀ u, bd.F s u = 0 := fun u => by
    induction u with
    | zero => rfl
    | succ u ih =>
      rw [Bd.F_succ, ih]
      have hg := Bd.go_ok h t.ok u
      have : bd.fst (bd.go s u) = false := by unfold Bd.fst; rw [hf _ _ hg.1 hg.2]; cases (bd.go s u).f <;> decide +kernel
      rw [this]; rfl
  obtain ⟨_, e2, e3, _, _, g⟩ := t.pc h
  rw [F0] at e2
  rw [← e2] at e3
  have p0 : bd.pcP = 0 := by
    rcases Nat.mul_eq_zero.mp e3.symm with z | z
    · exact z
    · omega
  rw [p0, Nat.gcd_zero_left] at g
  exact ⟨p0, g⟩
theorem pace_no_second {bd : Bd} (h : bd.ok) (hf : ∀ i j, i < bd.a.length → j < bd.b.length → bd.wd i j = "first") : bd.pcP = 1 ∧ bd.pcQ = 0 := by
  obtain ⟨s, n, t⟩ := trip_pc h
  have b1 := h.b1
  have F0 : ∀ u, bd.F s u = u := fun u => by
    induction u with
    | zero => rfl
    | succ u ih =>
      rw [Bd.F_succ, ih]
      have hg := Bd.go_ok h t.ok u
      have : bd.fst (bd.go s u) = true := by unfold Bd.fst; rw [hf _ _ hg.1 hg.2]; cases (bd.go s u).f <;> decide +kernel
      rw [this]; rfl
  obtain ⟨e1, e2, _, e4, _, g⟩ := t.pc h
  rw [F0, e1] at e2
  rw [← e2, Nat.sub_self] at e4
  have q0 : bd.pcQ = 0 := by
    rcases Nat.mul_eq_zero.mp e4.symm with z | z
    · exact z
    · omega
  rw [q0, Nat.gcd_zero_right] at g
  exact ⟨g, q0⟩
end DL

set_option Elab.async false
set_option linter.all false
set_option maxRecDepth 100000
set_option maxHeartbeats 4000000
namespace DL
open PySem PySem.Spec L2
open PyProof.Rows hiding St
/-! ## a method of a written tuple -/
theorem pe_tupM {X : Cx} {ts : List Expr} {k : Nat} {e : Expr} {ta : TA} {te : TA} {name : Str} {id : String} {r : V → List V → Hp → VK → Prop} {tpos apos cpos : Pos} (slot : Slot "tuple" name id) (hty : typeOf (.builtin id) = pure (.type "method_descriptor")) (hm : MtR X id r) (ht : PA X ts ta) (ha : PA X [e] te)
    (hbase : attributeBase (.Tuple ts k tpos) name X.env (eval (.Tuple ts k tpos) X.env) = eval (.Tuple ts k tpos) X.env)
    (hfew : ((backTo cpos (starEach [e] X.env)).all (fun x => !x.1) && (backToKw cpos (keywordEach [] X.env)).all (fun x => x.1.isSome)
      && decide (([e] : List Expr).length + ([] : List Keyword).length + (if ([] : List Keyword).isEmpty then 0 else 1) < 30)) = true)
    (hline : (apos.endLine == cpos.line) = true) (hs : starEach [e] X.env = [(false, eval e X.env)]) :
    PE X (.Call (.Attribute (.Tuple ts k tpos) name apos) [e] [] cpos) (fun σ H Q => ta σ H fun xs H1 => xs.length ≤ sizeLine ∧ ∀ p, H1 p = none → te σ (upd H1 p (.tup xs)) fun ys H2 => r (.ref p) ys H2 Q) := by
  refine ⟨fun pins s σ H Q I h => ?_⟩
  refine wpAny_Call_method_late hbase hfew hline rfl ?_
  refine wpAny_Tuple_spliced (thn (ht.run tpos pins s σ H _ I h) fun us s1 ⟨xs, H1, I1, rr, z, q⟩ => ⟨by rw [← rr.length]; exact z, ?_⟩)
  have hf : H1 s1.heap.objs.size = none := I1.hok.fresh (Nat.le_refl _)
  have I2 : Inv X pins σ (upd H1 s1.heap.objs.size (.tup xs)) { s1 with heap := s1.heap.push { cls := .type "tuple", data := .seq us.toArray } } := I1.laid (t' := s1.toks) (fun b u e => Heap.get?_push_of_some _ e) (Nat.le_refl _) ⟨z, us, rr, ⟨_, Heap.get?_push_size _ rfl, rfl, _, rfl⟩⟩
  refine ⟨"tuple", id, PySem.F.plainAttrs_tuple, slot, hty, ⟨_, Heap.get?_push_size _ rfl, rfl⟩, fun a e2 => ?_, ?_⟩
  · cases e2
    exact ⟨_, Heap.get?_push_size _ rfl, rfl⟩
  · have hA := ha.run cpos pins _ σ _ _ I2 (q _ hf)
    rw [hs] at hA ⊢
    refine Calls.callWith_builtin rfl (Calls.evalArgs_plain ?_)
    exact thn hA fun us' s2 ⟨vs, H2, I3, r2, q2⟩ => hm pins s2 σ H2 (.ref s1.heap.objs.size) vs (.ref s1.heap.objs.size) us' Q I3 rfl r2 q2
section
variable {X : Cx} {sl : Sl} {rs : List Res} {Q : EQ} {o e : Expr} {r0 : Rv} {name : Str} {id : String} {apos cpos tpos pos : Pos} {ts : List Expr} {k : Nat}
theorem ew_mT (slot : Slot "tuple" name id) (hty : typeOf (.builtin id) = pure (.type "method_descriptor")) (h : AW X sl ts rs fun as rs1 => ∃ ds, Shs rs1 as ds ∧ ds.length ≤ 100000 ∧ AW X sl [e] rs1 fun as rs2 => MV X id (.sh (.tup ds)) as rs2 Q)
    (hs : starEach [e] X.env = [(false, eval e X.env)] := by rfl) (hbase : attributeBase (.Tuple ts k tpos) name X.env (eval (.Tuple ts k tpos) X.env) = eval (.Tuple ts k tpos) X.env := by rfl) (hline : (apos.endLine == cpos.line) = true := by rfl)
    (hfew : ((backTo cpos (starEach [e] X.env)).all (fun x => !x.1) && (backToKw cpos (keywordEach [] X.env)).all (fun x => x.1.isSome)
      && decide ([e].length + ([] : List Keyword).length + (if ([] : List Keyword).isEmpty then 0 else 1) < 30)) = true := by rfl) :
    EW X sl (.Call (.Attribute (.Tuple ts k tpos) name apos) [e] [] cpos) rs Q :=
  ew_of (pe_tupM slot hty mt_S pa_S pa_S hbase hfew hline hs) fun T σ H R S => thenA h R S fun T1 rs1 as vs H1 l1 R1 p1 ⟨ds, e1, hl, q1⟩ => by
    have rp := e1.rps R1 p1
    refine ⟨by rw [rp.len]; exact Nat.le_trans hl (by decide), fun p hp => ?_⟩
    obtain ⟨R2, l2⟩ := R1.share (o := .tup vs) hp
    have p0 : RpV X.K { T1 with H0 := upd T1.H0 p (.tup vs) } (.ref p) (.sh (.tup ds)) := Rp.tup upd_same (rp.mono l2.h0)
    exact thenA q1 R2 (S.le (l1.trans l2)) fun T3 rs3 as3 vs3 H3 l3 R3 p3 q3 pins s σ' u us I i1 i2 =>
      thn (q3.go T3 H3 (.ref p) vs3 R3 (p0.le l3) p3 pins s σ' u us I i1 i2) fun _ _ ⟨v', H', I', rl, q⟩ => ⟨v', H', I', rl, q.le ((l1.trans l2).trans l3)⟩
/-- t.index(x) of texts -/
theorem mv_tupIx {ys : List Str} {z : Str} {j : Nat} (hz : ys[j]? = some z) (hno : ∀ m, m < j → ys[m]? ≠ some z) (q : Q (.sh (.int (j : Nat))) rs) : MV X "tuple.index" (.sh (.tup (ys.map Da.str))) [.sh (.str z)] rs Q :=
  mv_of mt_tup_index fun T H v vs R p pp2 => by
    obtain ⟨w, rfl, p2⟩ := rp1 pp2
    cases p with
    | tup hs rp => exact ⟨_, ys, z, j, rfl, by rw [strOf p2], SqT.of (R.h0 _ _ (by rw [Rps.toStrs rp] at hs; exact hs)), hz, hno, epost R (r := .sh (.int _)) (.int _) q⟩
end
end DL

set_option Elab.async false
set_option linter.all false
set_option maxRecDepth 100000
set_option maxHeartbeats 4000000
namespace DL
open PySem PySem.Spec L2
open PyProof.Rows hiding St
/-! ## sorted(set(text)), all of its letters -/
theorem addTx_in {xs : List Str} {k y : Str} (h : y ∈ xs ∨ y = k) : y ∈ addTx xs k := by
  unfold addTx
  split
  · rename_i hk
    rcases h with h | h
    · exact h
    · rw [h]; exact hk
  · rcases h with h | h
    · exact List.mem_append_left _ h
    · rw [h]; exact List.mem_append_right _ (by simp)
theorem addTx_all : ∀ (ks xs : List Str) (y : Str), y ∈ xs ∨ y ∈ ks → y ∈ ks.foldl addTx xs
  | [], xs, y, h => by
    rcases h with h | h
    · exact h
    · cases h
  | k :: ks, xs, y, h => by
    refine addTx_all ks _ y ?_
    rcases h with h | h
    · exact .inl (addTx_in (.inl h))
    · rcases List.mem_cons.mp h with h | h
      · exact .inl (addTx_in (.inr h))
      · exact .inr h
theorem signsTx_all {z : Str} {c : Nat} (h : c ∈ z.cps.toList) : (⟨#[c]⟩ : Str) ∈ signsTx z z.length := by
  unfold signsTx
  rw [List.take_of_length_le (by rw [Array.length_toList]; exact Nat.le_refl _)]
  exact addTx_all _ _ _ (.inr (List.mem_map_of_mem (f := fun c => (⟨#[c]⟩ : Str)) h))
section
variable {X : Cx}
def tSortSetC (ta : TE) : TE := fun σ H Q => ta σ H fun x H1 => ∃ z : Str, x = .str z ∧ z.length < 64 ∧ ∀ (ys : List Str) (p : Addr), ys.Nodup → (∀ y ∈ ys, ∃ c ∈ z.cps.toList, y = ⟨#[c]⟩) → (∀ c ∈ z.cps.toList, (⟨#[c]⟩ : Str) ∈ ys) → H1 p = none → Q (.ref p) (upd H1 p (.lst (ys.map V.str)))
theorem pe_sortSetC {a : Expr} {ta : TE} {p p2 q pos : Pos} (hc : X.calm = true) (hg : Gl X "sorted") (hm : X.mg "sorted" = none) (hg2 : Gl X "set") (hm2 : X.mg "set" = none) (ha : PE X a ta)
    (na : starEach [a] X.env = (false, eval a X.env) :: starEach [] X.env := by rfl) : PE X (.Call (.Name "sorted" p) [.Call (.Name "set" p2) [a] [] q] [] pos) (tSortSetC ta) := by
  refine ⟨fun pins s σ H Q I h => ?_⟩
  refine Call_ (ld_blt I hg hm (u := .builtin "sorted") (by decide +kernel) ?_)
  refine PyProof.Rows.callWith_builtin1 (PyProof.Rows.args_cons ?_ rfl) rfl rfl
  refine Call_ (ld_blt I hg2 hm2 PyProof.Rows.boot_set ?_)
  refine PyProof.Rows.callWith_type1 (PyProof.Rows.args_cons (thn (ha.run pins s σ H _ I h) fun v s1 ⟨x, H1, I1, r1, q1⟩ => PyProof.Rows.args_nil ?_) na) na rfl
  obtain ⟨z, rfl, hz, q1⟩ := q1
  obtain ⟨tk, rfl⟩ := r1
  refine call_set_str (I1.ok.hd hc) (by omega) fun h' tk hS hk => ?_
  refine PyProof.Rows.args_nil ?_
  have I2 : Inv X pins σ H1 { s1 with heap := h', toks := tk } := I1.kept fun b o e => hk b o e
  have hS2 : SetTx X.prog X.w ({ s1 with heap := h', toks := tk } : Shared).heap s1.heap.objs.size (signsTx z z.length) := hS
  generalize ({ s1 with heap := h', toks := tk } : Shared) = s2 at I2 hS2 ⊢
  refine sorted_setTx (s := s2) hS2 (I2.ok.hd hc) (by have := signsTx_len z z.length; omega) fun s' p out c ys k g o hp hg hi pm hs => ?_
  have hlen : (ys.map V.str).length ≤ sizeLine := by
    have := signsTx_len z z.length
    rw [List.length_map, pm.length_eq, sizeLine_eq]; omega
  have hn : H1 p = none := I2.hok.fresh hp
  have J : Inv X pins σ (upd H1 p (.lst (ys.map V.str))) { s2 with heap := s'.heap, gens := s'.gens, drawn := s'.drawn, toks := s'.toks } :=
    I2.call (ch := []) (Un.laid k hp hn) (I2.hok.laid k hp ⟨hlen, out.toList, c, vals_of_strs hi, hg⟩) (by rw [g]; exact I2.bare) (fun _ z => nomatch z)
  have e : s' = { s2 with heap := s'.heap, gens := s'.gens, drawn := s'.drawn, toks := s'.toks } := by
    cases s'
    cases s2
    cases o
    rfl
  rw [e]
  exact ⟨.ref p, _, J, rfl, q1 ys p (pm.nodup_iff.mpr (signsTx_nodup z z.length)) (fun y hy => signsTx_mem (pm.mem_iff.mp hy)) (fun c hc => pm.mem_iff.mpr (signsTx_all hc)) hn⟩
variable {sl : Sl} {rs : List Res} {Q : EQ}
theorem ew_sortSetC {a : Expr} {p p2 q pos : Pos} (hc : X.calm = true) (hm : X.mg "sorted" = none) (hm2 : X.mg "set" = none) (h : EW X sl a rs fun r rs1 => ∃ z : Str, r = .sh (.str z) ∧ z.length < 64 ∧ ∀ cs : List Nat, cs.Nodup → (∀ c, c ∈ cs ↔ c ∈ z.cps.toList) → Q (.rf rs1.length) (rs1 ++ [.lst (cs.map fun c => Da.str ⟨#[c]⟩)]))
    (hg : Gl X "sorted" := by rfl) (hg2 : Gl X "set" := by rfl) (na : starEach [a] X.env = (false, eval a X.env) :: starEach [] X.env := by rfl) : EW X sl (.Call (.Name "sorted" p) [.Call (.Name "set" p2) [a] [] q] [] pos) rs Q :=
  ew_of (pe_sortSetC hc hg hm hg2 hm2 pe_S na) fun T σ H R S => (h.go T σ H R S).mono fun v H1 ⟨T1, rs1, r, l1, R1, p1, z, e, hz, q⟩ => by
    subst e
    refine ⟨z, strOf p1, hz, fun ys pp hnd hys hall hp => ?_⟩
    obtain ⟨cs, rfl⟩ : ∃ cs : List Nat, ys = cs.map fun c => (⟨#[c]⟩ : Str) := by
      clear hnd hall
      induction ys with
      | nil => exact ⟨[], rfl⟩
      | cons y ys ih =>
        obtain ⟨c, _, e⟩ := hys y List.mem_cons_self
        obtain ⟨cs, e2⟩ := ih fun u hu => hys u (List.mem_cons_of_mem _ hu)
        exact ⟨c :: cs, by rw [e, e2]; rfl⟩
    have hq := q cs (List.Pairwise.of_map _ (fun a b hab e => hab (by rw [e])) hnd) fun c => ⟨fun hc => by
      obtain ⟨c', h1, h2⟩ := hys ⟨#[c]⟩ (List.mem_map.mpr ⟨c, hc, rfl⟩)
      have : c = c' := by simpa using h2
      rw [this]; exact h1, fun hc => by
      obtain ⟨c', h1, h2⟩ := List.mem_map.mp (hall c hc)
      have : c' = c := by simpa using h2
      rw [← this]; exact h1⟩
    have hr := Rps.ofStrs (K := X.K) (H := T1.H0) (cs.map fun c => (⟨#[c]⟩ : Str))
    rw [List.map_map, List.map_map] at hr
    rw [List.map_map]
    exact ⟨_, _, .rf rs1.length, l1.trans (T1.le_more pp), make_lst R1 hp hr, at_more R1 pp, hq⟩
end
/-! ## words by rank -/
def rankW (w : Str) : Nat := if w = "second" then 0 else if w = "other" then 1 else 2
abbrev rankL : List Str := ["second", "other", "first"]
theorem rankW_at {w : Str} (h : isW w) : rankL[rankW w]? = some w ∧ (∀ m, m < rankW w → rankL[m]? ≠ some w) ∧ rankW w ≤ 2 := by
  rcases h with e | e | e <;> subst e
  · refine ⟨by decide +kernel, fun m hm => ?_, by decide +kernel⟩
    have : m = 0 ∨ m = 1 := by have : rankW "first" = 2 := by decide +kernel
                               omega
    rcases this with e | e <;> subst e <;> decide +kernel
  · refine ⟨by decide +kernel, fun m hm => ?_, by decide +kernel⟩
    have : rankW "second" = 0 := by decide +kernel
    omega
  · refine ⟨by decide +kernel, fun m hm => ?_, by decide +kernel⟩
    have : m = 0 := by have : rankW "other" = 1 := by decide +kernel
                       omega
    subst this; decide +kernel
def MoreLe (w v : Str) : Prop := (w = "first" → v = "first") ∧ (w = "other" → v ≠ "second")
theorem more_rank {w : Str} {k : Nat} (h : isW w) (h1 : rankW w ≤ k) (h2 : k ≤ 2) : ∃ v, rankL[k]? = some v ∧ isW v ∧ MoreLe w v := by
  have hk : k = 0 ∨ k = 1 ∨ k = 2 := by omega
  rcases hk with e | e | e <;> subst e
  · refine ⟨"second", rfl, .inr (.inl rfl), fun z => ?_, fun z => ?_⟩
    · exfalso; rw [z] at h1; revert h1; decide +kernel
    · exfalso; rw [z] at h1; revert h1; decide +kernel
  · refine ⟨"other", rfl, .inr (.inr rfl), fun z => ?_, fun z => by decide +kernel⟩
    exfalso; rw [z] at h1; revert h1; decide +kernel
  · exact ⟨"first", rfl, .inl rfl, fun z => rfl, fun z => by decide +kernel⟩
structure MoreI (rows : List RowT) (cs ds : List Nat) (i j : Nat) (more : List RowT) : Prop where
  ri : RowsI cs ds i j more
  le : ∀ r ∈ more, MoreLe (lookR rows r.1 r.2.1) r.2.2
theorem MoreI.add {cs ds : List Nat} {i j c d : Nat} {y : Str} {rows more : List RowT} (h : MoreI rows cs ds i j more) (hc : cs.Nodup) (hd : ds.Nodup) (e1 : cs[i]? = some c) (e2 : ds[j]? = some d) (hy : isW y) (hl : MoreLe (lookR rows (sg c) (sg d)) y) :
    MoreI rows cs ds i (j + 1) (more ++ [(sg c, sg d, y)]) := ⟨h.ri.add hc hd e1 e2 hy, fun r hr => by
  rcases List.mem_append.mp hr with hr | hr
  · exact h.le r hr
  · have : r = (sg c, sg d, y) := by simpa using hr
    rw [this]; exact hl⟩
/-- all pairs are there -/
def FullI (cs : List Nat) (y : Str) (i : Nat) (more : List RowT) : Prop := ∀ a c d, a < i → cs[a]? = some c → d ∈ y.cps.toList → ∃ v, (sg c, sg d, v) ∈ more
theorem more_board {x y : Str} {rows more : List RowT} {cs ds : List Nat} (hok : Bd.ok ⟨x, y, rows⟩) (hcs : ∀ c, c ∈ cs ↔ c ∈ x.cps.toList) (h : MoreI rows cs ds cs.length 0 more) (hf : FullI cs y cs.length more) (hl : cs.length ≤ 100) :
    Bd.ok ⟨x, y, more⟩ ∧ Bd.Le ⟨x, y, rows⟩ ⟨x, y, more⟩ ∧ ∀ i j, i < x.length → j < y.length → ∃ v, (chr x i, chr y j, v) ∈ more := by
  have ok' : Bd.ok ⟨x, y, more⟩ := ⟨hok.a1, hok.a2, hok.b1, hok.b2, h.ri.ok (by omega)⟩
  have key : ∀ i j, i < x.length → j < y.length → ∃ v, (chr x i, chr y j, v) ∈ more := fun i j hi hj => by
    obtain ⟨c, hc, ec⟩ := List.mem_map.mp (chr_mem hi)
    obtain ⟨d, hd, ed⟩ := List.mem_map.mp (chr_mem hj)
    obtain ⟨a, ha, ea⟩ := List.mem_iff_getElem.mp ((hcs c).mpr hc)
    obtain ⟨v, hv⟩ := hf a c d ha (by rw [List.getElem?_eq_getElem ha, ea]) hd
    exact ⟨v, by rw [← ec, ← ed]; exact hv⟩
  have look : ∀ i j, i < x.length → j < y.length → MoreLe (Bd.wd ⟨x, y, rows⟩ i j) (Bd.wd ⟨x, y, more⟩ i j) := fun i j hi hj => by
    obtain ⟨v, hv⟩ := key i j hi hj
    have e : Bd.wd ⟨x, y, more⟩ i j = v := look_row ok'.rows.nd hv
    rw [e]
    exact h.le _ hv
  exact ⟨ok', ⟨rfl, rfl, fun i j hi hj z => (look i j hi hj).1 z, fun i j hi hj z => (look i j hi hj).2 z, fun i j => Bd.wd_isW ok' i j⟩, key⟩
def setW (v : Str) (r : RowT) : RowT := (r.1, r.2.1, v)
theorem setW_board {x y v : Str} {more : List RowT} (hok : Bd.ok ⟨x, y, more⟩) (hv : isW v) (hf : ∀ i j, i < x.length → j < y.length → ∃ v, (chr x i, chr y j, v) ∈ more) :
    Bd.ok ⟨x, y, more.map (setW v)⟩ ∧ ∀ i j, i < x.length → j < y.length → Bd.wd ⟨x, y, more.map (setW v)⟩ i j = v := by
  have hr := hok.rows
  have ok' : RowsOk (more.map (setW v)) := ⟨by
      have := hr.nd
      rw [List.map_map]; exact this, fun r h => by
      obtain ⟨r', _, e⟩ := List.mem_map.mp h
      rw [← e]; exact hv, by rw [List.length_map]; exact hr.len⟩
  refine ⟨⟨hok.a1, hok.a2, hok.b1, hok.b2, ok'⟩, fun i j hi hj => ?_⟩
  obtain ⟨u, hu⟩ := hf i j hi hj
  exact look_row (r := (chr x i, chr y j, v)) ok'.nd (List.mem_map.mpr ⟨_, hu, rfl⟩)
end DL

set_option Elab.async false
set_option linter.all false
set_option maxRecDepth 100000
set_option maxHeartbeats 1000000
namespace DL
open PySem PySem.Spec L2
/-! ## the tick at which the first reader has done so many steps -/
structure Bd.At (bd : Bd) (s : Sd) (t v : Nat) : Prop where
  eq : bd.F s t = v
  lt : ∀ u, u < t → bd.F s u < v
section
variable {bd : Bd} {s w : Sd} {t u v m n b : Nat}
theorem Bd.At.uniq (h : bd.At s t v) (h' : bd.At s u v) : t = u := by
  rcases Nat.lt_trichotomy t u with z | z | z
  · have := h'.lt t z; have := h.eq; omega
  · exact z
  · have := h.lt u z; have := h'.eq; omega
theorem Bd.at_ex {N : Nat} (h : v ≤ bd.F s N) : ∃ t, t ≤ N ∧ bd.At s t v := by
  rcases Nat.eq_zero_or_pos v with z | z
  · subst z; exact ⟨0, Nat.zero_le _, rfl, fun u hu => absurd hu (Nat.not_lt_zero u)⟩
  · obtain ⟨t, h1, h2, h3⟩ := Bd.F_come z h
    refine ⟨t + 1, h1, by rw [Bd.F_succ, if_pos h3]; exact h2, fun u hu => ?_⟩
    have := Bd.F_mono (bd := bd) (s := s) (show u ≤ t by omega)
    omega
theorem Bd.At.last (h : bd.At s t (m + 1)) : ∃ c, t = c + 1 ∧ bd.fst (bd.go s c) = true ∧ bd.F s c = m := by
  have e := h.eq
  cases t with
  | zero => rw [Bd.F_zero] at e; omega
  | succ c =>
    have l := h.lt c (Nat.lt_succ_self c)
    rw [Bd.F_succ] at e
    cases hf : bd.fst (bd.go s c) with
    | true => rw [hf] at e; exact ⟨c, rfl, hf, by simpa using e⟩
    | false => rw [hf] at e; simp at e; omega
theorem Bd.At.of (hf : bd.fst (bd.go s u) = true) : bd.At s (u + 1) (bd.F s u + 1) := by
  refine ⟨by rw [Bd.F_succ, if_pos hf], fun c hc => ?_⟩
  have := Bd.F_mono (bd := bd) (s := s) (show c ≤ u by omega)
  omega
theorem Bd.At.hts (h : bd.At s t (m + 1)) : (bd.hts s t)[m]? = some (bd.G s t) := by
  obtain ⟨x, hx⟩ := Bd.hts_at (bd := bd) (s := s) (m := m) (n := t) (by rw [h.eq]; omega)
  obtain ⟨c, h1, h2, h3, h4⟩ := Bd.hts_get hx
  have hc := Bd.At.of h2
  rw [h3] at hc
  have e := h.uniq hc
  subst e
  rw [hx, h4]
  unfold Bd.G
  rw [h.eq, h3]
  congr 1
  omega
theorem Bd.At.add {k g : Nat} (h : bd.At s t k) (h' : bd.At (bd.go s t) u g) (hg : 0 < g) : bd.At s (t + u) (k + g) := by
  refine ⟨by rw [Bd.F_add, h.eq, h'.eq], fun c hc => ?_⟩
  by_cases hl : c ≤ t
  · have := Bd.F_mono (bd := bd) (s := s) hl
    have := h.eq
    omega
  · have := h'.lt (c - t) (by omega)
    have e := Bd.F_add bd s t (c - t)
    rw [show t + (c - t) = c by omega, h.eq] at e
    omega
/-- two walks from one column: alike within a round -/
theorem Bd.At.near {x : Nat} (hok : bd.ok) (hs : s.ok bd) (hw : w.ok bd) (ei : s.i = w.i) (h : bd.At s t (m + 1)) (h' : bd.At w x (m + 1)) : bd.G s t ≤ bd.G w x + bd.b.length ∧ bd.G w x ≤ bd.G s t + bd.b.length := by
  have j1 := hs.2
  have j2 := hw.2
  rcases leL_or s.j s.f w.j w.f with l | l
  · obtain ⟨h1, h2⟩ := Bd.between hok hs hw ei l h.hts h'.hts
    have : s.j ≤ w.j := by unfold leL at l; omega
    omega
  · obtain ⟨h1, h2⟩ := Bd.between hok hw hs ei.symm l h'.hts h.hts
    have : w.j ≤ s.j := by unfold leL at l; omega
    omega
theorem Bd.F_far (hok : bd.ok) (hs : s.ok bd) (hp : 0 < bd.pcP) (v : Nat) : ∃ N, v ≤ bd.F s N := by
  obtain ⟨n, tn⟩ := come_trip0 hok hs
  have a1 := hok.a1
  refine ⟨n + v * bd.pcN, ?_⟩
  rw [come_F hok tn]
  have h1 : v * 1 ≤ v * (bd.pcP * bd.a.length) := Nat.mul_le_mul_left _ (Nat.mul_pos hp (by omega))
  omega
theorem Bd.At.iter {v : Nat} (hok : bd.ok) (hs : s.ok bd) (hw : w.ok bd) (ei : s.i = w.i) (hp : 0 < bd.pcP) {r : Nat} (e : m + 1 = r * bd.a.length) (h : bd.At s t (m + 1)) : ∀ k, ∃ x, bd.At w x (k * (m + 1)) ∧ k * bd.G s t ≤ bd.G w x + k * bd.b.length ∧ bd.G w x ≤ k * bd.G s t + k * bd.b.length
  | 0 => ⟨0, ⟨by rw [Nat.zero_mul]; rfl, fun u hu => absurd hu (Nat.not_lt_zero u)⟩, by simp, by unfold Bd.G; simp⟩
  | k + 1 => by
    obtain ⟨x, h1, h2, h3⟩ := Bd.At.iter (v := v) hok hs hw ei hp e h k
    have hok' := Bd.go_ok hok hw x
    obtain ⟨N, hN⟩ := Bd.F_far hok hok' hp (m + 1)
    obtain ⟨x', _, h4⟩ := Bd.at_ex hN
    have ei' : s.i = (bd.go w x).i := by
      rw [← Bd.go_i hok hw x, h1.eq, e, ei, ← Nat.mul_assoc, Nat.add_mul_mod_self_right, Nat.mod_eq_of_lt hw.1]
    obtain ⟨n1, n2⟩ := Bd.At.near hok hs hok' ei' h h4
    refine ⟨x + x', by rw [Nat.succ_mul]; exact h1.add h4 (Nat.succ_pos m), ?_, ?_⟩
    · rw [Bd.G_add, Nat.succ_mul, Nat.succ_mul]; omega
    · rw [Bd.G_add, Nat.succ_mul, Nat.succ_mul]; omega
theorem Bd.trip_col (hok : bd.ok) (hp : 0 < bd.pcP) {c : Nat} (hc : c < bd.a.length) : ∃ w, bd.Trip w bd.pcN ∧ w.i = c ∧ w.f = true := by
  obtain ⟨u, n, tu⟩ := trip_pc hok
  have hi := tu.ok.1
  have en := (tu.pc hok).1
  obtain ⟨N, hN⟩ := Bd.F_far hok tu.ok hp ((c + bd.a.length - u.i) % bd.a.length + (bd.a.length - 1) + 1)
  obtain ⟨t, _, ht⟩ := Bd.at_ex hN
  obtain ⟨d, e1, e2, _⟩ := ht.last
  refine ⟨bd.go u t, by rw [← en]; exact (tu.shift hok t).1, ?_, ?_⟩
  · have a1 := hok.a1
    rw [← Bd.go_i hok tu.ok t, ht.eq, show (c + bd.a.length - u.i) % bd.a.length + (bd.a.length - 1) + 1 = (c + bd.a.length - u.i) % bd.a.length + bd.a.length by omega, ← Nat.add_assoc, Nat.add_mod_right, Nat.add_mod_mod, show u.i + (c + bd.a.length - u.i) = c + bd.a.length by omega, Nat.add_mod_right, Nat.mod_eq_of_lt hc]
  · rw [e1]
    show (bd.tick (bd.go u d)).f = true
    rw [Bd.tick_f]; exact e2
/-- where the first one has done r rounds, the second one's steps go with the pace -/
theorem Bd.At.pace {r : Nat} (hok : bd.ok) (hs : s.ok bd) (hp : 0 < bd.pcP) (hr : 0 < r) (h : bd.At s t (r * bd.a.length)) :
    bd.pcP * bd.G s t ≤ r * (bd.pcQ * bd.b.length) + bd.pcP * bd.b.length ∧ r * (bd.pcQ * bd.b.length) ≤ bd.pcP * bd.G s t + bd.pcP * bd.b.length := by
  have a1 := hok.a1
  have hra : 0 < r * bd.a.length := Nat.mul_pos hr (by omega)
  obtain ⟨m, hm⟩ : ∃ m, r * bd.a.length = m + 1 := ⟨r * bd.a.length - 1, by omega⟩
  obtain ⟨w, tw, hwi, hwf⟩ := Bd.trip_col hok hp hs.1
  have h' := h
  rw [hm] at h'
  obtain ⟨x, h1, h2, h3⟩ := Bd.At.iter (v := 0) hok hs tw.ok hwi.symm hp hm.symm h' bd.pcP
  obtain ⟨_, e2, e3, e4, e5, _⟩ := tw.pc hok
  obtain ⟨l1, l2, l3⟩ := Bd.laps tw.back r
  have eG : bd.G w bd.pcN = bd.pcQ * bd.b.length := by unfold Bd.G; rw [e2, e4]
  have hN := tw.pos
  have at2 : bd.At w (r * bd.pcN) (bd.pcP * (m + 1)) := by
    have hpos : 0 < r * bd.pcN := Nat.mul_pos hr hN
    obtain ⟨c, hc⟩ : ∃ c, r * bd.pcN = c + 1 := ⟨r * bd.pcN - 1, by omega⟩
    have hf : bd.fst (bd.go w c) = true := by
      rw [← Bd.tick_f]
      show (bd.go w (c + 1)).f = true
      rw [← hc, l1]; exact hwf
    have := Bd.At.of hf
    have eF : bd.F w c + 1 = bd.F w (c + 1) := by rw [Bd.F_succ, if_pos hf]
    rw [eF, ← hc, l2, e2, e3] at this
    rw [← hm, Nat.mul_left_comm]; exact this
  have ex := h1.uniq at2
  subst ex
  rw [l3, eG] at h2 h3
  exact ⟨h2, h3⟩
/-- where it has none it stops soon -/
theorem Bd.F_few (hok : bd.ok) (hs : s.ok bd) (hp : bd.pcP = 0) (t : Nat) : bd.F s t < bd.a.length := by
  obtain ⟨u, n, tu⟩ := trip_pc hok
  have a1 := hok.a1
  obtain ⟨_, e2, e3, _, _, _⟩ := tu.pc hok
  rw [hp, Nat.zero_mul] at e3
  rw [e3] at e2
  have hb := (tu.barred hok e2).2
  have hv : (u.i + bd.a.length - s.i) % bd.a.length < bd.a.length := Nat.mod_lt _ (by omega)
  refine Nat.lt_of_le_of_lt (Nat.le_of_not_lt fun z => ?_) hv
  obtain ⟨x, hx, ht⟩ := Bd.at_ex (Nat.le_of_lt z)
  have hi := hs.1
  have hiu := tu.ok.1
  have ei : (bd.go s x).i = u.i := by
    rw [← Bd.go_i hok hs x, ht.eq, Nat.add_mod_mod, show s.i + (u.i + bd.a.length - s.i) = u.i + bd.a.length by omega, Nat.add_mod_right, Nat.mod_eq_of_lt hiu]
  have h0 := (Bd.F_stop hok (Bd.go_ok hok hs x) hb ei (t - x)).1
  have := Bd.F_add bd s x (t - x)
  rw [show x + (t - x) = t by omega, h0, ht.eq] at this
  omega
/-- by laps: where F comes to a far number -/
theorem Bd.Road.never (h : bd.Road s n b) (he : bd.F s n = bd.F s b) (t : Nat) : bd.F s t ≤ bd.F s n := by
  by_cases ht : t ≤ n
  · exact Bd.F_mono ht
  · have hl := h.lt
    have hm : (t - b) % (n - b) < n - b := Nat.mod_lt _ (by omega)
    have h1 := h.laps ((t - b) % (n - b)) ((t - b) / (n - b))
    have e : b + (t - b) % (n - b) + (t - b) / (n - b) * (n - b) = t := by
      have := Nat.mod_add_div (t - b) (n - b)
      rw [Nat.mul_comm] at this
      omega
    rw [e, he, Nat.sub_self, Nat.mul_zero] at h1
    have := Bd.F_mono (bd := bd) (s := s) (show b + (t - b) % (n - b) ≤ n by omega)
    omega
theorem Bd.Road.far {T e t0 : Nat} (h : bd.Road s n b) (h1 : b ≤ t0) (h2 : t0 ≤ n) (h3 : bd.F s b + e < bd.F s t0) (h4 : ∀ u, b ≤ u → u < t0 → bd.F s u ≤ bd.F s b + e) :
    bd.At s (t0 + T * (n - b)) (bd.F s b + T * (bd.F s n - bd.F s b) + e + 1) ∧ bd.G s (t0 + T * (n - b)) = bd.G s t0 + T * (bd.G s n - bd.G s b) := by
  have hl := h.lt
  have hb : b < t0 := by
    rcases Nat.lt_or_ge b t0 with z | z
    · exact z
    · have : b = t0 := by omega
      subst this; omega
  have hp := h4 (t0 - 1) (by omega) (by omega)
  have hs1 := Bd.F_le1 (bd := bd) (s := s) (show t0 - 1 ≤ t0 by omega)
  have e0 : bd.F s t0 = bd.F s b + e + 1 := by omega
  have e1 : bd.F s (t0 - 1) = bd.F s b + e := by omega
  have L0 := h.laps (t0 - b) T
  have L1 := h.laps (t0 - 1 - b) T
  rw [show b + (t0 - b) = t0 by omega] at L0
  rw [show b + (t0 - 1 - b) = t0 - 1 by omega] at L1
  have mF := Bd.F_mono (bd := bd) (s := s) (Nat.le_of_lt hl)
  refine ⟨⟨by rw [L0.2, e0]; omega, fun u hu => ?_⟩, ?_⟩
  · have := Bd.F_mono (bd := bd) (s := s) (show u ≤ t0 - 1 + T * (n - b) by omega)
    rw [L1.2, e1] at this
    omega
  · have g0 := Bd.FG bd s (t0 + T * (n - b))
    have g1 := Bd.FG bd s t0
    have g2 := Bd.FG bd s n
    have g3 := Bd.FG bd s b
    have mG := Bd.G_mono (bd := bd) (s := s) (Nat.le_of_lt hl)
    rw [L0.2] at g0
    have e5 : n - b = (bd.F s n - bd.F s b) + (bd.G s n - bd.G s b) := by omega
    have e6 : T * (n - b) = T * (bd.F s n - bd.F s b) + T * (bd.G s n - bd.G s b) := by rw [← Nat.mul_add, ← e5]
    omega
end
/-- the second one's steps by then, or none -/
def postBy (bd : Bd) (s : Sd) (g : Nat) (d : Da) : Prop := (d = .non ∧ ∀ t, bd.F s t < g) ∨ ∃ t, bd.At s t g ∧ d = .int (bd.G s t : Nat)
def postRnd (p : Bd × Sd × Nat) (d : Da) : Prop := (d = .non ∧ ∀ t, p.1.F p.2.1 t < p.2.2 * p.1.a.length) ∨ ∃ t, p.1.At p.2.1 t (p.2.2 * p.1.a.length) ∧ d = .int ((p.1.G p.2.1 t / p.1.b.length : Nat))
def pairsD (bd : Bd) (s : Sd) (n : Nat) : List Da := (List.range (n + 1)).map fun t => .tup [.int (bd.F s t : Nat), .int (bd.G s t : Nat)]
theorem pairs_at {bd : Bd} {s : Sd} {n t : Nat} (h : t ≤ n) : (pairsD bd s n)[t]? = some (.tup [.int (bd.F s t : Nat), .int (bd.G s t : Nat)]) := by
  unfold pairsD
  rw [List.getElem?_map, List.getElem?_range (by omega)]; rfl
theorem pairs_len {bd : Bd} {s : Sd} {n : Nat} : (pairsD bd s n).length = n + 1 := by unfold pairsD; rw [List.length_map, List.length_range]
end DL

set_option Elab.async false
set_option linter.all false
set_option maxRecDepth 100000
set_option maxHeartbeats 1000000
namespace DL
open PySem PySem.Spec L2
/-! ## the first that is so -/
theorem flt_succ (p : Nat → Bool) (n : Nat) : (List.range (n + 1)).filter p = (List.range n).filter p ++ (if p n = true then [n] else []) := by
  rw [List.range_succ, List.filter_append]
  congr 1
  cases h : p n <;> simp [h]
theorem flt_spec (p : Nat → Bool) : ∀ n, ((List.range n).filter p = [] ∧ ∀ t, t < n → p t = false) ∨ ∃ t L, (List.range n).filter p = t :: L ∧ t < n ∧ p t = true ∧ ∀ u, u < t → p u = false
  | 0 => .inl ⟨rfl, fun t ht => absurd ht (Nat.not_lt_zero t)⟩
  | n + 1 => by
    rw [flt_succ]
    rcases flt_spec p n with ⟨e, h⟩ | ⟨t, L, e, h1, h2, h3⟩
    · cases hp : p n with
      | true => exact .inr ⟨n, [], by rw [e]; simp, Nat.lt_succ_self n, hp, h⟩
      | false =>
        refine .inl ⟨by rw [e]; simp, fun t ht => ?_⟩
        by_cases z : t = n
        · subst z; exact hp
        · exact h t (by omega)
    · exact .inr ⟨t, L ++ _, by rw [e]; rfl, by omega, h2, h3⟩
theorem atI_neg1 {ds : List Da} {d : Da} (h : ds[ds.length - 1]? = some d) : atI ds (-1) = some d := by
  have hl : 1 ≤ ds.length := by
    cases ds with
    | nil => cases h
    | cons a t => simp
  have hix : ixN ds.length (-1) = some (ds.length - 1) := by unfold ixN; simp; omega
  unfold atI
  rw [hix]; exact h
theorem postBy_near {bd : Bd} {s : Sd} {n b g : Nat} (hR : bd.Road s n b) : ∀ {t : Nat}, t ≤ n → g ≤ bd.F s t → (∀ u, u < t → bd.F s u < g) → postBy bd s g (.int (bd.G s t : Nat)) := fun {t} ht h1 h2 => by
  refine .inr ⟨t, ⟨?_, h2⟩, rfl⟩
  cases t with
  | zero => rw [Bd.F_zero] at h1 ⊢; omega
  | succ c =>
    have := h2 c (Nat.lt_succ_self c)
    have := Bd.F_le1 (bd := bd) (s := s) (show c ≤ c + 1 by omega)
    omega
theorem rnd_lo {p q B m g : Nat} (hB : 0 < B) (hp : 0 < p) (h : m * (q * B) ≤ p * g + p * B) : ¬ ((((g / B : Nat) : Int) + 1) * (B : Nat) * (p : Nat) ≤ (m : Nat) * (q : Nat) * (B : Nat) - ((B : Nat) + 1) * (p : Nat)) := by
  have e1 : (((g / B : Nat) : Int) + 1) * (B : Nat) * (p : Nat) = (((g / B + 1) * B * p : Nat) : Int) := by simp only [Int.natCast_mul, Int.natCast_add]; rfl
  have e2 : ((m : Nat) : Int) * (q : Nat) * (B : Nat) = ((m * (q * B) : Nat) : Int) := by simp only [Int.natCast_mul, Int.mul_assoc]
  have e3 : (((B : Nat) : Int) + 1) * (p : Nat) = ((p * B + p : Nat) : Int) := by
    rw [Int.add_mul, Int.one_mul]; simp only [Int.natCast_mul, Int.natCast_add]; rw [Int.mul_comm]
  rw [e1, e2, e3]
  have h1 : (g + 1) * p ≤ (g / B + 1) * B * p := Nat.mul_le_mul_right _ (by
    have := Nat.div_add_mod g B
    have := Nat.mod_lt g hB
    rw [Nat.succ_mul, Nat.mul_comm (g / B) B]; omega)
  rw [Nat.succ_mul, Nat.mul_comm g p] at h1
  omega
theorem rnd_hi {p q B m g : Nat} (hp : 0 < p) (h : p * g ≤ m * (q * B) + p * B) : ¬ (((g / B : Nat) : Int) * (B : Nat) * (p : Nat) ≥ (m : Nat) * (q : Nat) * (B : Nat) + ((B : Nat) + 1) * (p : Nat)) := by
  have e1 : ((g / B : Nat) : Int) * (B : Nat) * (p : Nat) = ((g / B * B * p : Nat) : Int) := by simp only [Int.natCast_mul]
  have e2 : ((m : Nat) : Int) * (q : Nat) * (B : Nat) = ((m * (q * B) : Nat) : Int) := by simp only [Int.natCast_mul, Int.mul_assoc]
  have e3 : (((B : Nat) : Int) + 1) * (p : Nat) = ((p * B + p : Nat) : Int) := by
    rw [Int.add_mul, Int.one_mul]; simp only [Int.natCast_mul, Int.natCast_add]; rw [Int.mul_comm]
  rw [e1, e2, e3]
  have h1 : g / B * B * p ≤ g * p := Nat.mul_le_mul_right _ (Nat.div_mul_le_self g B)
  rw [Nat.mul_comm g p] at h1
  omega
end DL

set_option Elab.async false
set_option linter.all false
set_option maxRecDepth 100000
set_option maxHeartbeats 1000000
namespace DL
open PySem PySem.Spec L2
/-! ## rounds told by a law's own going -/
theorem pairs_succ {bd : Bd} {s : Sd} (k : Nat) : pairsD bd s (k + 1) = pairsD bd s k ++ [.tup [.int (bd.F s (k + 1) : Nat), .int (bd.G s (k + 1) : Nat)]] := by
  unfold pairsD
  rw [List.range_succ, List.map_append]; rfl
theorem rnd_uniq {p : Bd × Sd × Nat} {d d' : Da} (h : postRnd p d) (h' : postRnd p d') : d = d' := by
  rcases h with ⟨e, h⟩ | ⟨t, h, e⟩ <;> rcases h' with ⟨e', h'⟩ | ⟨t', h', e'⟩
  · rw [e, e']
  · have := h t'; rw [h'.eq] at this; omega
  · have := h' t; rw [h.eq] at this; omega
  · have et := h.uniq h'
    subst et
    rw [e, e']
theorem rnd_okD {p : Bd × Sd × Nat} {d : Da} (h : postRnd p d) : okD 1 d = true := by
  rcases h with ⟨e, _⟩ | ⟨t, _, e⟩ <;> subst e <;> rfl
theorem xfl (l : Bool) : atI [Da.str "first", .str "second"] (if decide (lastT l = "first") = true then 1 else 0) = some (.str (lastT !l)) := by
  have : decide (lastT l = "first") = l := by cases l <;> decide +kernel
  rw [this]
  cases l
  · exact atI_nat (j := 0) rfl
  · exact atI_nat (j := 1) rfl
theorem isF (l : Bool) : decide (lastT l = "first") = l := by cases l <;> decide +kernel
theorem isS (l : Bool) : decide (lastT l = "second") = !l := by cases l <;> decide +kernel
theorem Bd.FG_succ (bd : Bd) (s : Sd) (k : Nat) : ((bd.F s (k + 1) : Nat) : Int) = (bd.F s k : Nat) + (if bd.fst (bd.go s k) = true then 1 else 0) ∧ ((bd.G s (k + 1) : Nat) : Int) = (bd.G s k : Nat) + (if (!bd.fst (bd.go s k)) = true then 1 else 0) := by
  have g1 := Bd.FG bd s (k + 1)
  have g0 := Bd.FG bd s k
  have e := Bd.F_succ (bd := bd) (s := s) (k := k)
  cases hf : bd.fst (bd.go s k)
  · rw [hf] at e
    simp at e ⊢; omega
  · rw [hf] at e
    simp at e ⊢; omega
/-- where the law's own seeking stands: the steps from c on, T trips gone, g' left -/
structure DueMid (bd : Bd) (s : Sd) (n g c T g' : Nat) : Prop where
  le : c ≤ n
  ex : ∃ k, c + k ≤ n ∧ bd.F s (c + k) = g'
  fin : ∀ k, c + k ≤ n → bd.F s (c + k) = g' → (∀ u, u < k → bd.F s (c + u) ≠ g') → ∃ t, bd.At s t g ∧ bd.G s t = bd.G s (c + k) + T * (bd.G s n - bd.G s c)
section
variable {bd : Bd} {s : Sd} {n b g : Nat}
theorem due_near (h : g ≤ bd.F s n) : DueMid bd s n g 0 0 g := by
  obtain ⟨t, ht, ha⟩ := Bd.at_ex h
  refine ⟨Nat.zero_le _, ⟨t, by omega, by rw [Nat.zero_add]; exact ha.eq⟩, fun k hk e hu => ⟨k, ⟨by rw [Nat.zero_add] at e; exact e, fun u hl => ?_⟩, by rw [Nat.zero_add, Nat.zero_mul]; rfl⟩⟩
  have h1 := hu u hl
  rw [Nat.zero_add] at h1 e
  have := Bd.F_mono (bd := bd) (s := s) (Nat.le_of_lt hl)
  omega
theorem due_far (hR : bd.Road s n b) {M T e : Nat} (h : bd.F s n < g) (hM : bd.F s b + M + 1 = g) (hd : (bd.F s n - bd.F s b) * T + e = M) (he : e < bd.F s n - bd.F s b) : DueMid bd s n g b T (bd.F s b + e + 1) := by
  have hl := hR.lt
  have mF := Bd.F_mono (bd := bd) (s := s) (Nat.le_of_lt hl)
  obtain ⟨t, ht, ha⟩ := Bd.at_ex (bd := bd) (s := s) (v := bd.F s b + e + 1) (N := n) (by omega)
  have hb : b ≤ t := by
    refine Nat.le_of_not_lt fun z => ?_
    have := Bd.F_mono (bd := bd) (s := s) (Nat.le_of_lt z)
    have := ha.eq
    omega
  refine ⟨Nat.le_of_lt hl, ⟨t - b, by omega, by rw [show b + (t - b) = t by omega]; exact ha.eq⟩, fun k hk e1 hu => ?_⟩
  obtain ⟨f1, f2⟩ := hR.far (T := T) (e := e) (t0 := b + k) (by omega) hk (by omega) fun u u1 u2 => by
    have h1 := hu (u - b) (by omega)
    rw [show b + (u - b) = u by omega] at h1
    have := Bd.F_mono (bd := bd) (s := s) (Nat.le_of_lt u2)
    omega
  refine ⟨_, ?_, f2⟩
  rw [Nat.mul_comm T (bd.F s n - bd.F s b)] at f1
  rw [show g = bd.F s b + (bd.F s n - bd.F s b) * T + e + 1 by omega]
  exact f1
end
end DL

set_option Elab.async false
set_option linter.all false
set_option maxRecDepth 100000
set_option maxHeartbeats 4000000
namespace DL
open PySem PySem.Spec L2
open PyProof.Rows (envOfC)
/-! ## refusals: what flies out of a def -/
/-- what is shared, and all that is new -/
def grow (H0 H H' : Hp) : Hp := fun a => match H a with
  | none => H' a
  | some _ => H0 a
theorem grow_new {H0 H H' : Hp} {a : Addr} (h : H a = none) : grow H0 H H' a = H' a := by unfold grow; rw [h]
theorem grow_old {H0 H H' : Hp} {a : Addr} {o : HO} (h : H a = some o) : grow H0 H H' a = H0 a := by unfold grow; rw [h]
structure XAt (K : PySem.W.Frag) (T : Tw) (H : Hp) (C : Addr) (what : Da) (cls : Value) (d : Option Addr) (H' : Hp) : Prop where
  cls : cls = .ref C
  ex : ∃ (dd : Addr) (fs : List (Str × V)) (v : V), d = some dd ∧ H dd = none ∧ H' dd = some (.xd fs) ∧ fs.lookup ("what" : Str) = some v ∧ Rp K (grow T.H0 H H') v what
  kp : Kp H H'
/-- each object is shared or not ours -/
def Full (T : Tw) (H : Hp) : Prop := ∀ a o, H a = some o → T.H0 a = some o ∨ T.Fr a = some o
section
variable {K : PySem.W.Frag} {T0 T : Tw} {H0 H H' : Hp} {rs : List Res}
theorem full_kp (F : Full T0 H0) (l : T0.le T) (R : RepH K T rs H) : Kp H0 H := fun a o e => by
  rcases F a o e with h | h
  · exact R.h0 _ _ (l.h0 _ _ h)
  · exact R.fr _ _ (by rw [l.fr]; exact h)
theorem full_grow (F : Full T0 H0) (l : T0.le T) (R : RepH K T rs H) (k : Kp H H') : Kp T.H0 (grow T0.H0 H0 H') := fun a o e => by
  cases h : H0 a with
  | none => rw [grow_new h]; exact k _ _ (R.h0 _ _ e)
  | some u =>
    rw [grow_old h]
    rcases F a u h with h1 | h1
    · have := l.h0 _ _ h1
      rw [e] at this; cases this; exact h1
    · have := R.df a o e
      rw [l.fr, h1] at this; cases this
theorem full_call0 (R : RepH K T rs H) : Full (T.call0 H) H := fun a o e => by
  cases h : T.H0 a with
  | some u =>
    have := R.h0 a u h
    rw [e] at this; cases this
    exact .inl h
  | none =>
    refine .inr ?_
    show (if (T.H0 a).isSome = true ∨ ((none : Option Nat)).isSome = true then none else H a) = _
    rw [h]; simpa using e
/-- what flew out of a callee flies out here -/
theorem XAt.up {C : Addr} {what : Da} {cls : Value} {d : Option Addr} (F : Full T0 H0) (l : T0.le T) (R : RepH K T rs H) (x : XAt K T H C what cls d H') : XAt K T0 H0 C what cls d H' := by
  obtain ⟨e, ⟨dd, fs, v, e1, e2, e3, e4, e5⟩, k⟩ := x
  have k0 := full_kp F l R
  refine ⟨e, ⟨dd, fs, v, e1, k0.none e2, e3, e4, e5.mono fun a o h => ?_⟩, k0.trans k⟩
  cases hH : H a with
  | none => rw [grow_new hH] at h; rw [grow_new (k0.none hH)]; exact h
  | some u => rw [grow_old hH] at h; exact full_grow F l R k a o h
end
def dNone : Ends := { nx := fun _ _ => False, rt := fun _ _ => False, bk := fun _ _ => False, ct := fun _ _ => False }
/-- the statements end by raising: the class at C, with what -/
structure SWr (X : Cx) (E : XK) (sl : Sl) (sts : List Stmt) (rs : List Res) (C : Addr) (what : Da) : Prop where
  go : ∀ T0 H0 T σ H, Full T0 H0 → T0.le T → RepH X.K T rs H → SlOk X.K T sl σ → (∀ cls d H', XAt X.K T0 H0 C what cls d H' → E cls d H') → tssS X sts dNone σ H
/-- a refusing call -/
def spR (K : PySem.W.Frag) (pre : List Da → Addr → Da → Prop) : Sp := fun vs H _ E => ∃ (T : Tw) (rs : List Res) (ds : List Da) (C : Addr) (what : Da), RepH K T rs H ∧ Rps K T.H0 vs ds ∧ pre ds C what ∧ ∀ cls d H', XAt K T H C what cls d H' → E cls d H'
theorem rps_rpv {K : PySem.W.Frag} {T : Tw} : ∀ {vs : List V} {ds : List Da}, Rps K T.H0 vs ds → RpVs K T vs (ds.map Rv.sh)
  | _, _, .nil => .nil
  | _, _, .cons a t => .cons a (rps_rpv t)
section
variable {P : Program} {w : World} {K : PySem.W.Frag} {mg : Str → Option Value} {base : Heap}
theorem fnR {x qual : Str} {st : Stmt} {f : Addr} {fd : FuncData} {N ps : List Str} {k : Nat} {pre : List Da → Addr → Da → Prop} (F : Fun K x qual st f fd) (S : FnScope N ps (defScope st)) (hl : ∀ ds C d, pre ds C d → ds.length = ps.length)
    (hb : ∀ (cdv : Value) (A : Around) (outer : List Env) (s : Shared) (H : Hp) (E : XK) (ds : List Da) (C : Addr) (what : Da), Room k (A.deeper (envOfC qual (defScope st) s.heap.objs.size f cdv)) → pre ds C what →
      SWr (cxOf (L2.CX P w) P w K mg base N qual (defScope st) f cdv A outer s H E) E (slots N (ds.map Rv.sh)) (defBody st) [] C what) : FnOk P w K mg base (L2.CX P w) (k + 1) f fd ps (spR K pre) := by
  refine F.okX S (fun vs H Q E h => ?_) (fun cdv A outer s H vs Q E hr h => ?_)
  · obtain ⟨T, rs, ds, C, what, R, rp, hp, _⟩ := h
    rw [rp.len]; exact hl _ _ _ hp
  · obtain ⟨T, rs, ds, C, what, R, rp, hp, hE⟩ := h
    have R1 : RepH K (T.call0 H) [] H := R.call0
    have rp1 : RpVs K (T.call0 H) vs (ds.map Rv.sh) := rps_rpv (T := T.call0 H) rp
    refine ⟨_, pss_S, ?_⟩
    have := (hb cdv A outer s H E ds C what hr hp).go (T.call0 H) H (T.call0 H) (L2.start N vs) H (full_call0 R) (.refl _) R1 (slots_ok rp1) fun cls d H' x => hE cls d H' ⟨x.cls, x.ex, x.kp⟩
    exact this.mono ⟨fun _ _ z => z.elim, fun _ _ z => z.elim, fun _ _ z => z.elim, fun _ _ z => z.elim⟩
end
section
variable {X : Cx} {E : XK} {sl : Sl} {st : Stmt} {sts : List Stmt} {rs : List Res} {C : Addr} {what : Da} {c e : Expr} {es : List Expr} {b1 b2 : List Stmt} {x : Str} {p pos pos2 : Pos}
theorem tsS_nox {D : Ends} {σ : L2.St} {H : Hp} (h : tsS X.nox st D σ H) : tsS X st D σ H := fun pins s I => wpAny_mono (h pins s (I.wish _)) (fun _ _ q => q.unwish) fun _ _ z => z.elim
theorem ttS_nox {σ : L2.St} {H : Hp} {Q : Bool → Hp → Prop} (h : ttS X.nox c σ H Q) : ttS X c σ H Q := fun pins s I => wpAny_mono (h pins s (I.wish _)) (fun _ _ ⟨H', I', q⟩ => ⟨H', I'.unwish, q⟩) fun _ _ z => z.elim
theorem sr_cons (h : S1 X.nox sl st rs { nx := fun sl' rs' => SWr X E sl' sts rs' C what, rt := fun _ _ => False, bk := fun _ _ => False, ct := fun _ _ => False }) : SWr X E sl (st :: sts) rs C what := ⟨fun T0 H0 T σ H F l R S hE pins s I => by
  refine (pss_cons ps_S pss_S).run pins s σ H _ I (tsS_nox ((h.go T σ H R S).mono ⟨fun σ' H' ⟨T', sl', rs', l', R', S', q⟩ => ?_, fun _ _ q => ?_, fun _ _ q => ?_, fun _ _ q => ?_⟩))
  · exact q.go T0 H0 T' σ' H' F (l.trans l') R' S' hE
  · obtain ⟨_, _, _, _, _, _, q⟩ := q; exact q.elim
  · obtain ⟨_, _, _, _, _, _, q⟩ := q; exact q.elim
  · obtain ⟨_, _, _, _, _, _, q⟩ := q; exact q.elim⟩
theorem sr_if (h : TW X.nox sl c rs fun b rs1 => b = true ∧ SWr X E sl b1 rs1 C what) : SWr X E sl (.If c b1 b2 pos :: sts) rs C what := ⟨fun T0 H0 T σ H F l R S hE pins s I => by
  refine (pss_cons (ps_if (pt_S (X := X)) pss_S (pss_S (sts := b2))) (pss_S (sts := sts))).run pins s σ H _ I (ttS_nox (thenT h R S fun T1 rs1 b H1 l1 R1 ⟨e1, q⟩ => ?_))
  subst e1
  exact iteT ((q.go T0 H0 T1 σ H1 F (l.trans l1) R1 (S.le l1) hE).mono ⟨fun _ _ z => z.elim, fun _ _ z => z.elim, fun _ _ z => z.elim, fun _ _ z => z.elim⟩)⟩
theorem taS_nox {es : List Expr} {σ : L2.St} {H : Hp} {Q : List V → Hp → Prop} (h : taS X.nox es σ H Q) : taS X es σ H Q := fun pos pins s I => wpAny_mono (h pos pins s (I.wish _)) (fun _ _ ⟨v, H', I', r, q⟩ => ⟨v, H', I'.unwish, r, q⟩) fun _ _ z => z.elim
end
/-- self.what = what -/
def spI (K : PySem.W.Frag) : Sp := fun vs H Q _ => ∃ (a C : Addr) (y : V), vs = [.ref a, y] ∧ OexC K C ∧ PySem.W.findIn K (.ref C) ("what" : Str) = some none ∧ H a = some (exo a C none) ∧ ∀ dx, H dx = none → dx ≠ a → Q .non (upd (upd H dx (exd dx [(("what" : Str), y)])) a (exo a C (some dx)))
theorem init_ok {P : Program} {w : World} {K : PySem.W.Frag} {mg : Str → Option Value} {base : Heap} {x qual : Str} {st : Stmt} {f : Addr} {fd : FuncData} {p1 p2 p3 pos : Pos} (F : Fun K x qual st f fd) (S : FnScope ["self", "what"] ["self", "what"] (defScope st)) (hb : defBody st = [Stmt.Assign [Expr.Attribute (Expr.Name "self" p1) "what" p2] (Expr.Name "what" p3) pos])
    (h1 : (defScope st).names.lookup ("self" : Str) = some .local) (h2 : (defScope st).names.lookup ("what" : Str) = some .local) : FnOk P w K mg base CX0 1 f fd ["self", "what"] (spI K) := by
  refine F.ok S (fun vs H Q E h => ?_) (fun cdv A outer s H vs Q E hr h => ?_)
  · obtain ⟨a, C, y, rfl, _⟩ := h; rfl
  · obtain ⟨a, C, y, rfl, T, hw, ha, q⟩ := h
    rw [hb]
    refine ⟨_, pss_cons (ps_ost (to := tVar 0) (te := tVar 1) (pe_var rfl (.inl h1) (by decide) (by decide)) (pe_var rfl (.inl h2) (by decide) (by decide))) pss_nil, ?_⟩
    refine ⟨y, rfl, .ref a, rfl, a, C, rfl, T, hw, .inl ⟨ha, fun dx h3 h4 => q dx h3 h4⟩⟩
/-- a refusal's class -/
structure RefC (P : Program) (w : World) (K : PySem.W.Frag) (mg : Str → Option Value) (base : Heap) (x : Str) (C : Addr) : Prop where
  T : OexC K C
  nw : PySem.W.findIn K (.ref C) ("what" : Str) = some none
  hm : mg x = some (.ref C)
  ini : ∃ (fI : Addr) (fd : FuncData), PySem.W.findIn K (.ref C) "__init__" = some (some (.ref fI)) ∧ PySem.W.typeIn K (.ref fI) = some (.type "function") ∧ FnOk P w K mg base CX0 1 fI fd ["self", "what"] (spI K) ∧ Binds K fd ["self", "what"] []
/-- a def that refuses -/
structure RaC (P : Program) (w : World) (K : PySem.W.Frag) (mg : Str → Option Value) (base : Heap) (x : Str) (ps : List Str) (k : Nat) (pre : List Da → Addr → Da → Prop) : Prop where
  ex : ∃ (f : Addr) (fd : FuncData), mg x = some (.ref f) ∧ PySem.W.keepIn K (.ref f) = true ∧ Binds K fd ps [] ∧ FnOk P w K mg base (L2.CX P w) k f fd ps (spR K pre)
section
variable {X : Cx} {E : XK} {sl : Sl} {st : Stmt} {sts : List Stmt} {rs : List Res} {C : Addr} {what : Da} {c e : Expr} {es : List Expr} {b1 b2 : List Stmt} {x : Str} {p pos pos2 : Pos} {k : Nat} {ps : List Str} {pre : List Da → Addr → Da → Prop}
theorem sr_raise (tk : Takes X fun cls d _ H => E cls d H) (Z : RefC X.prog X.w X.K X.mg X.base x C) (hr : Room 2 X.A) (h : AW X.nox sl [e] rs fun as rs1 => as = [.sh what]) (hc : X.calm = true := by rfl) (hg : Gl X x := by rfl) (hdb : (x == ("__debug__" : Str)) = false := by decide)
    (he : starEach [e] X.env = (false, eval e X.env) :: starEach [] X.env := by rfl) (hpl : (backTo pos (starEach [] X.env)).any (·.1) = false := by rfl) :
    SWr X E sl (.Raise (some (.Call (.Name x p) [e] [] pos)) none pos2 :: sts) rs C what := ⟨fun T0 H0 T σ H F l R S hE pins s I => by
  obtain ⟨fI, fd, iC, tI, F1, hb⟩ := Z.ini
  refine (pss_cons (ps_raise (W := fun cls d _ H => E cls d H) hc tk (pmk_oex (ds := []) (dvs := []) Z.T iC tI F1 hr hb .nil pass0 hg Z.hm (pa_S (es := [e])) hdb he hpl)) (pss_S (sts := sts))).run pins s σ H _ I ?_
  show taS X [e] σ H _
  refine taS_nox (thenA h R S fun T1 rs1 as vs H1 l1 R1 p1 e1 => ?_)
  subst e1
  cases p1 with
  | cons pv pn =>
    rename_i y vs'
    cases pn
    have pv : Rp X.K T1.H0 y what := pv
    refine ⟨by simp, fun a ha => ⟨a, C, y, rfl, Z.T, Z.nw, upd_same, fun dx h1 h2 => ?_⟩⟩
    have hdx : H1 dx = none := by rw [upd_ne h2] at h1; exact h1
    refine ⟨rfl, dx, _, upd_same, by rw [upd_ne h2]; exact upd_same, hdx, hE _ _ _ ?_⟩
    have kG : Kp H1 (upd (del (upd (upd (upd H1 a (exo a C none)) dx (exd dx [(("what" : Str), y)])) a (exo a C (some dx))) a) dx (.xd [(("what" : Str), y)])) := fun b o e => by
      have n1 : b ≠ a := ne_of_none e ha
      have n2 : b ≠ dx := ne_of_none e hdx
      rw [upd_ne n2, del_ne n1, upd_ne n1, upd_ne n2, upd_ne n1]; exact e
    have k0 := full_kp F (l.trans l1) R1
    exact ⟨rfl, ⟨dx, _, y, rfl, k0.none hdx, upd_same, by simp, pv.mono (full_grow F (l.trans l1) R1 kG)⟩, k0.trans kG⟩⟩
theorem sr_call (tk : Takes X fun cls d _ H => E cls d H) (D : RaC X.prog X.w X.K X.mg X.base x ps k pre) (hr : Room k X.A) (h : AW X.nox sl (e :: es) rs fun as rs1 => ∃ ds, Shs rs1 as ds ∧ pre ds C what) (hg : Gl X x := by rfl) (hdb : (x == ("__debug__" : Str)) = false := by decide)
    (he : starEach (e :: es) X.env = (false, eval e X.env) :: starEach es X.env := by rfl) (hpl : (backTo pos (starEach es X.env)).any (·.1) = false := by rfl) (hs : swapsWith (.Call (.Name x p) (e :: es) [] pos) none pos2.line X.env = pure false := by rfl) :
    SWr X E sl (.Expr (.Call (.Name x p) (e :: es) [] pos) pos2 :: sts) rs C what := ⟨fun T0 H0 T σ H F l R S hE pins s I => by
  obtain ⟨f, fd, hm, hk, hb, F1⟩ := D.ex
  refine (pss_cons (ps_expr (pe_callS F1 hr hg hm hk hb (fun σ => passAt tk σ) (pa_S (es := e :: es)) hdb he hpl) hs) (pss_S (sts := sts))).run pins s σ H _ I ?_
  show taS X (e :: es) σ H _
  refine taS_nox (thenA h R S fun T1 rs1 as vs H1 l1 R1 p1 ⟨ds, e1, hp⟩ => ?_)
  exact ⟨T1, rs1, ds, C, what, R1, e1.rps R1 p1, hp, fun cls d H' x => hE _ _ _ (x.up F (l.trans l1) R1)⟩⟩
end
end DL

set_option Elab.async false
set_option linter.all false
set_option maxRecDepth 100000
set_option maxHeartbeats 4000000
namespace DL
open PySem PySem.Spec L2
open PyProof.Rows (envOfC)
/-! ## refusals that are caught -/
/-- behind a refusing call: all that was stays, what is new is shared, the refusal's dict is told -/
theorem RepH.landed {K : PySem.W.Frag} {T : Tw} {rs : List Res} {H H' : Hp} {C : Addr} {what : Da} {cls : Value} {d : Option Addr} (R : RepH K T rs H) (x : XAt K T H C what cls d H') :
    ∃ T' dd, d = some dd ∧ T.le T' ∧ RepH K T' (rs ++ [.exc dd what]) H' := by
  obtain ⟨_, ⟨dd, fs, v, e1, e2, e3, e4, e5⟩, k⟩ := x
  have k0 : Kp T.H0 (grow T.H0 H H') := fun a o e => by rw [grow_old (R.h0 _ _ e)]; exact e
  have le0 : T.le { H0 := grow T.H0 H H', Fr := T.Fr, own := T.own, n := T.n + 1, ad := fun j => if j = T.n then dd else T.ad j } := ⟨k0, rfl, Nat.le_succ _, fun j hj => if_neg (by omega)⟩
  refine ⟨{ H0 := grow T.H0 H H', Fr := T.Fr, own := T.own, n := T.n + 1, ad := fun j => if j = T.n then dd else T.ad j }, dd, e1, le0, ⟨by rw [List.length_append, R.n]; rfl, fun a o e => ?_, R.fr.trans k, fun a j e => ?_, fun a o e => ?_, fun j r e => ?_, fun a xs e => ?_⟩⟩
  · have e : grow T.H0 H H' a = some o := e
    cases h : H a with
    | none => rw [grow_new h] at e; exact e
    | some u => rw [grow_old h] at e; exact k _ _ (R.h0 _ _ e)
  · obtain ⟨d1, d2, d3⟩ := R.dj a j e
    cases h : H a with
    | none => exact absurd h d3
    | some u => exact ⟨by show grow T.H0 H H' a = none; rw [grow_old h]; exact d1, d2, by rw [k _ _ h]; simp⟩
  · have e : grow T.H0 H H' a = some o := e
    cases h : H a with
    | none => exact R.fr.none h
    | some u => rw [grow_old h] at e; exact R.df a o e
  · by_cases hj : j < rs.length
    · rw [List.getElem?_append_left hj] at e
      exact (R.rs j r e).keep le0 (R.lt e) fun a ha => ⟨ha, fun o q => k _ _ q⟩
    · have hj2 : j = rs.length := by
        have := (List.getElem?_eq_some_iff.mp e).1
        rw [List.length_append, List.length_singleton] at this
        omega
      subst hj2
      rw [List.getElem?_append_right (Nat.le_refl _), Nat.sub_self] at e
      have e : Res.exc dd what = r := Option.some.inj e
      subst e
      exact ⟨fs, v, by show grow T.H0 H H' dd = _; rw [grow_new e2]; exact e3, e4, e5⟩
  · show grow T.H0 H H' a = _
    cases h : H a with
    | none => rw [grow_new h]; exact e
    | some u =>
      have := k _ _ h
      rw [e] at this; cases this
      rw [grow_old h]; exact R.tu a xs h
section
variable {X : Cx} {sl : Sl} {rs : List Res} {Q : EQ} {R : Out} {i k : Nat} {x xF n : Str} {c : Value} {e b0 : Stmt} {suite : List Stmt} {e1 : Expr} {es : List Expr} {ps : List Str} {pre : List Da → Addr → Da → Prop} {p np pos pos2 pos' posT : Pos}
def outS (R : Out) (i : Nat) : Out := { nx := fun sl rs => R.nx (sl.set i none) rs, rt := R.rt, bk := fun sl rs => R.bk (sl.set i none) rs, ct := fun sl rs => R.ct (sl.set i none) rs }
theorem slOk_none {K : PySem.W.Frag} {T : Tw} {sl : Sl} {σ : L2.St} (S : SlOk K T sl σ) (i : Nat) : SlOk K T (sl.set i none) (σ.set i none) := ⟨by rw [List.length_set, List.length_set]; exact S.len, fun j r e => by
  by_cases h : i = j
  · subst h
    by_cases hl : i < sl.length
    · rw [List.getElem?_set_self hl] at e; cases e
    · rw [List.getElem?_eq_none (by rw [List.length_set]; omega)] at e; cases e
  · rw [List.getElem?_set_ne h] at e
    rw [List.getElem?_set_ne h]
    exact S.get j r e⟩
theorem s_tryX (hs : X.stack = X.env :: X.outer) (hf : X.env.frame = some X.env.locals) (hN : X.N.Nodup) (hcl : Names X xF c) (D : RaC X.prog X.w X.K X.mg X.base x ps k pre) (hr : Room k X.A)
    (h : ∀ pn xe, AW (X.tr pn xe) sl (e1 :: es) rs fun as rs1 => ∃ ds C what, Shs rs1 as ds ∧ pre ds C what ∧ PySem.W.exmOne X.K (.ref C) c = some true ∧
      ∀ a oe dd pn, Zc (.ref C) (some dd) oe → (∃ vs, oe.data = .fields vs) → SW (X.suite a ((a, oe) :: pn)) (sl.set i (some (.sh (.adr a)))) (b0 :: suite) (rs1 ++ [.exc dd what]) (outS R i))
    (hi : X.N[i]? = some n := by rfl) (hln : X.env.kindOf n = some .local := by rfl) (hg : Gl X x := by rfl) (hdb : (x == ("__debug__" : Str)) = false := by decide)
    (he : starEach (e1 :: es) X.env = (false, eval e1 X.env) :: starEach es X.env := by rfl) (hpl : (backTo pos (starEach es X.env)).any (·.1) = false := by rfl) (hsw : swapsWith (.Call (.Name x p) (e1 :: es) [] pos) none pos2.line X.env = pure false := by rfl) :
    S1 X sl (.Try [.Expr (.Call (.Name x p) (e1 :: es) [] pos) pos2] [.ExceptHandler (some (.Name xF np)) (some n) (b0 :: suite) pos'] [] [] posT) rs R := by
  obtain ⟨f, fd, hm, hk, hb, F1⟩ := D.ex
  refine s1_of (ps_try_as (Wout := fun _ _ _ _ => False) (tb := fun W => tSeq (tDrop (tCallS (spR X.K pre) (WE W) fun σ H Q => ∀ pn xe, taS (X.tr pn xe) (e1 :: es) σ H Q)) tNext) (ts := fun a cls d D σ H => ∀ oe pn, Zc cls d oe → (∃ vs, oe.data = .fields vs) → tssS (X.suite a ((a, oe) :: pn)) (b0 :: suite) D σ H)
    hs hf hN hi hln hcl takes0 (fun W pn xe tk _ => ?_) (fun a oe cls d pn hz hd => ⟨fun pins s σ H D I h => h oe pn hz hd pins s I⟩)) fun T σ H hR S => ?_
  · exact pss_cons (ps_expr (pe_callS (X := X.tr pn xe) F1 hr hg hm hk hb (fun σ => passAt tk σ) ⟨fun pos pins s σ H Q I h => (pa_S (es := e1 :: es)).run pos pins s σ H Q I (h pn xe)⟩ hdb he hpl) hsw) pss_nil
  · intro pn xe
    refine thenA (h pn xe) hR S fun T1 rs1 as vs H1 l1 R1 p1 ⟨ds, C, what, e2, hp, hex, hsu⟩ => ?_
    refine ⟨T1, rs1, ds, C, what, R1, e2.rps R1 p1, hp, fun cls d H' xa => ?_⟩
    obtain ⟨T2, dd, ed, l2, R2⟩ := R1.landed xa
    have ec := xa.cls
    subst ec ed
    refine ⟨true, hex, fun _ a ha oe pn2 hz hd => ?_, fun z => (nomatch z)⟩
    have S2 : SlOk X.K T2 (sl.set i (some (.sh (.adr a)))) (σ.set i (some (.ref a))) := ((S.le l1).le l2).set i (r := .sh (.adr a)) (Rp.adr a)
    refine (SW.go (hsu a oe dd pn2 hz hd) T2 _ H' R2 S2).mono ⟨fun σ' H'' q => ?_, fun v H'' q => ?_, fun σ' H'' q => ?_, fun σ' H'' q => ?_⟩
    · obtain ⟨T3, sl3, rs3, l3, R3, S3, q⟩ := q
      exact ⟨T3, _, rs3, (l1.trans l2).trans l3, R3, slOk_none S3 i, q⟩
    · obtain ⟨T3, rs3, r3, l3, R3, p3, q⟩ := q
      exact ⟨T3, rs3, r3, (l1.trans l2).trans l3, R3, p3, q⟩
    · obtain ⟨T3, sl3, rs3, l3, R3, S3, q⟩ := q
      exact ⟨T3, _, rs3, (l1.trans l2).trans l3, R3, slOk_none S3 i, q⟩
    · obtain ⟨T3, sl3, rs3, l3, R3, S3, q⟩ := q
      exact ⟨T3, _, rs3, (l1.trans l2).trans l3, R3, slOk_none S3 i, q⟩
end
/-! ## what is asked of a caught refusal -/
section
variable {X : Cx} {a D dd : Addr} {oe : Obj} {pn : List (Addr × Obj)}
theorem inst_at {pins : List (Addr × Obj)} {s : Shared} {σ : L2.St} {H : Hp} {fs : List (Str × V)} (hz : Zc (.ref D) (some dd) oe) (hf : ∃ vs, oe.data = .fields vs) (I : Inv (X.suite a ((a, oe) :: pn)) pins σ H s) (ed : H dd = some (.xd fs)) : ∃ od, PySem.W.InstAt s.heap a oe D (some od) := by
  obtain ⟨ha, _⟩ := I.pin (a, oe) (List.mem_append_left _ List.mem_cons_self)
  obtain ⟨vs, hd⟩ := hf
  have hx : ObjOk X.prog X.w H s.heap dd (.xd fs) := I.hok dd _ ed
  obtain ⟨mA, hns, hr⟩ := hx
  obtain ⟨od, ho, hl⟩ := lookIn_ns hns
  exact ⟨od, ha, hz.1, by unfold PySem.W.notCls; rw [hd] <;> rfl, by rw [hz.2]; exact ho⟩
theorem call_isX (C : ExcC X.K D) (hz : Zc (.ref D) (some dd) oe) (hf : ∃ vs, oe.data = .fields vs) : CallR (X.suite a ((a, oe) :: pn)) (.builtin "isinstance") (fun xs H Q => ∃ (fs : List (Str × V)) (c : V) (cv : Value) (b : Bool), xs = [.ref a, c] ∧ H dd = some (.xd fs) ∧ (∀ u, RelV c u → u = cv) ∧ PySem.W.kitOne X.K (.ref D) cv = some b ∧ Q (.bl b) H) := by
  intro pins s σ H xs us Q I r h
  obtain ⟨fs, c, cv, b, rfl, ed, hcv, e, q⟩ := h
  cases r with
  | cons rx rr =>
    cases rr with
    | cons rt rr =>
      cases rr
      cases rx
      have ec := hcv _ rt
      subst ec
      obtain ⟨od, J⟩ := inst_at hz hf I ed
      exact PySem.W.kia_one (PySem.W.kitx_exc (od := some od) (by obtain ⟨cd, hc, _⟩ := PySem.W.any_some C.hd; rw [hc]; rfl) C.hg C.hk C.hs C.ha C.hn C.ht C.hm) I.kIn J e (fun z => nomatch z) fun tk => ⟨.bl b, H, I.kept (t' := tk) fun _ _ z => z, rfl, q⟩
theorem call_isXt (C : ExcC X.K D) (hz : Zc (.ref D) (some dd) oe) (hf : ∃ vs, oe.data = .fields vs) : CallR (X.suite a ((a, oe) :: pn)) (.builtin "isinstance") (fun xs H Q => ∃ (fs : List (Str × V)) (tp : Addr) (cs : List V) (cvs : List Value) (b : Bool), xs = [.ref a, .ref tp] ∧ H dd = some (.xd fs) ∧ H tp = some (.tup cs) ∧ (∀ us, Vals cs us → us = cvs) ∧ PySem.W.kitAny X.K (.ref D) cvs = some b ∧ Q (.bl b) H) := by
  intro pins s σ H xs us Q I r h
  obtain ⟨fs, tp, cs, cvs, b, rfl, ed, et, hcv, e, q⟩ := h
  cases r with
  | cons rx rr =>
    cases rr with
    | cons rt rr =>
      cases rr
      cases rx
      cases rt
      obtain ⟨od, J⟩ := inst_at hz hf I ed
      have hx : ObjOk X.prog X.w H s.heap tp (.tup cs) := I.hok tp _ et
      obtain ⟨_, its, hv, o, ho, hc, n, hd⟩ := hx
      have ei := hcv its hv
      subst ei
      obtain ⟨oc, od2, oda, osl⟩ := o
      simp only at hc hd
      subst hc hd
      exact PySem.W.kia_tup (PySem.W.kitx_exc (od := some od) (by obtain ⟨cd, hc, _⟩ := PySem.W.any_some C.hd; rw [hc]; rfl) C.hg C.hk C.hs C.ha C.hn C.ht C.hm) I.kIn J ho e (fun z => nomatch z) fun tk => ⟨.bl b, H, I.kept (t' := tk) fun _ _ z => z, rfl, q⟩
variable {sl : Sl} {rs : List Res} {Q : EQ} {k : Nat} {what : Da} {e : Expr} {pos : Pos} {b : Bool}
theorem cv_isX {c : Addr} (C : ExcC X.K D) (hz : Zc (.ref D) (some dd) oe) (hf : ∃ vs, oe.data = .fields vs) (hk : rs[k]? = some (.exc dd what)) (hb : PySem.W.kitOne X.K (.ref D) (.ref c) = some b) (q : Q (.sh (.bl b)) rs) : CV (X.suite a ((a, oe) :: pn)) (.builtin "isinstance") [.sh (.adr a), .sh (.adr c)] rs Q :=
  cv_of (call_isX C hz hf) fun T H vs R pp => by
    obtain ⟨v, w, rfl, p1, p2⟩ := rp2 pp
    obtain ⟨fs, v', h1, _, _⟩ := R.rs _ _ hk
    cases p1; cases p2
    exact ⟨fs, .ref c, .ref c, b, rfl, R.h0 _ _ h1, fun u hu => hu, hb, epost R (r := .sh (.bl _)) (.bl _) q⟩
theorem cv_isXy {n : String} (C : ExcC X.K D) (hz : Zc (.ref D) (some dd) oe) (hf : ∃ vs, oe.data = .fields vs) (hk : rs[k]? = some (.exc dd what)) (hb : PySem.W.kitOne X.K (.ref D) (.type n) = some b) (q : Q (.sh (.bl b)) rs) : CV (X.suite a ((a, oe) :: pn)) (.builtin "isinstance") [.sh (.adr a), .sh (.ty n)] rs Q :=
  cv_of (call_isX C hz hf) fun T H vs R pp => by
    obtain ⟨v, w, rfl, p1, p2⟩ := rp2 pp
    obtain ⟨fs, v', h1, _, _⟩ := R.rs _ _ hk
    cases p1; cases p2
    exact ⟨fs, .ty n, .type n, b, rfl, R.h0 _ _ h1, fun u hu => hu, hb, epost R (r := .sh (.bl _)) (.bl _) q⟩
theorem vals_adrs : ∀ {cs : List Addr} {us : List Value}, Vals (cs.map V.ref) us → us = cs.map Value.ref
  | [], _, .nil => rfl
  | c :: cs, _, .cons h t => by
    have h : _ = Value.ref c := h
    rw [List.map_cons, h, vals_adrs t]
theorem rps_adrs {K : PySem.W.Frag} {H : Hp} : ∀ {cs : List Addr} {vs : List V}, Rps K H vs (cs.map Da.adr) → vs = cs.map V.ref
  | [], _, .nil => rfl
  | c :: cs, _, .cons (.adr _) t => by rw [rps_adrs t]; rfl
theorem cv_isXt {cs : List Addr} (C : ExcC X.K D) (hz : Zc (.ref D) (some dd) oe) (hf : ∃ vs, oe.data = .fields vs) (hk : rs[k]? = some (.exc dd what)) (hb : PySem.W.kitAny X.K (.ref D) (cs.map Value.ref) = some b) (q : Q (.sh (.bl b)) rs) : CV (X.suite a ((a, oe) :: pn)) (.builtin "isinstance") [.sh (.adr a), .sh (.tup (cs.map Da.adr))] rs Q :=
  cv_of (call_isXt C hz hf) fun T H vs R pp => by
    obtain ⟨v, w, rfl, p1, p2⟩ := rp2 pp
    obtain ⟨fs, v', h1, _, _⟩ := R.rs _ _ hk
    cases p1
    cases p2 with
    | tup ht rp =>
      have ev := rps_adrs rp
      subst ev
      exact ⟨fs, _, _, _, b, rfl, R.h0 _ _ h1, R.h0 _ _ ht, fun us hu => vals_adrs hu, hb, epost R (r := .sh (.bl _)) (.bl _) q⟩
theorem ew_what (C : XfC X.K D) (hno : PySem.W.findIn X.K (.ref D) ("what" : Str) = some none) (hz : Zc (.ref D) (some dd) oe) (hf : ∃ vs, oe.data = .fields vs) (h : EW (X.suite a ((a, oe) :: pn)) sl e rs fun r (rs1 : List Res) => r = Rv.sh (.adr a) ∧ ∃ (k : Nat) (what : Da), rs1[k]? = some (Res.exc dd what) ∧ Q (.sh what) rs1) (hb : attributeBase e "what" X.env (eval e X.env) = eval e X.env := by rfl) : EW (X.suite a ((a, oe) :: pn)) sl (.Attribute e "what" pos) rs Q :=
  ew_of (pe_xf C hno hz hf pe_S hb) fun T σ H R S => then1 h R S fun T1 rs1 r v H1 l1 R1 p1 ⟨e1, k, what, hk, q⟩ => by
    subst e1
    cases p1
    obtain ⟨fs, v', h1, h2, h3⟩ := R1.rs _ _ hk
    exact ⟨rfl, rfl, dd, fs, v', rfl, R1.h0 _ _ h1, h2, T1, rs1, .sh what, l1, R1, h3, q⟩
end
/-! ## classes asked -/
theorem kitOne_no {K : PySem.W.Frag} {t c : Addr} (h1 : PySem.W.hasDictIn K c = true) (h2 : PySem.W.typeIn K (.ref c) = some (.type "type")) (h3 : PySem.W.subIn K (.ref t) (.ref c) = some false) (h4 : PySem.W.subIn K (.ref t) (.ref t) = some true) : PySem.W.kitOne K (.ref t) (.ref c) = some false := by
  have hne : t ≠ c := fun z => by subst z; rw [h3] at h4; cases h4
  obtain ⟨cd, hc, _⟩ := PySem.W.any_some h1
  unfold PySem.W.kitOne
  rw [if_neg (fun z => hne (Value.ref.inj (beq_iff_eq.mp z)))]
  show (if ((PySem.W.clsIn K c).isSome && PySem.W.typeIn K (.ref c) == some (.type "type")) = true then PySem.W.subIn K (.ref t) (.ref c) else none) = some false
  rw [if_pos (by rw [hc, h2]; rfl)]
  exact h3
theorem kitOne_self {K : PySem.W.Frag} {t : Addr} : PySem.W.kitOne K (.ref t) (.ref t) = some true := by
  unfold PySem.W.kitOne
  rw [if_pos (beq_self_eq_true _)]
theorem kitOne_VE {K : PySem.W.Frag} {t : Addr} (h : PySem.W.subIn K (.ref t) (.type "ValueError") = some true) : PySem.W.kitOne K (.ref t) (.type "ValueError") = some true := by
  unfold PySem.W.kitOne
  have hne : (Value.ref t == Value.type "ValueError") = false := beq_eq_false_iff_ne.mpr (fun z => Value.noConfusion z)
  rw [hne, if_neg Bool.false_ne_true]
  show (if PySem.W.kitMeta "ValueError" = true then PySem.W.subIn K (.ref t) (.type "ValueError") else none) = some true
  rw [if_pos (by decide +kernel)]
  exact h
theorem kitAny_no {K : PySem.W.Frag} {t : Addr} : ∀ {cs : List Value}, (∀ c ∈ cs, PySem.W.kitOne K (.ref t) c = some false) → PySem.W.kitAny K (.ref t) cs = some false
  | [], _ => rfl
  | c :: cs, h => by
    show (match PySem.W.kitOne K (.ref t) c with | some true => some true | some false => PySem.W.kitAny K (.ref t) cs | none => none) = _
    rw [h c List.mem_cons_self]
    exact kitAny_no fun x hx => h x (List.mem_cons_of_mem _ hx)
theorem glA {K : PySem.W.Frag} {mg : Str → Option Value} {x : Str} {a : Addr} (h : mg x = some (.ref a)) : GlD K mg x (.adr a) := ⟨_, .ref a, h, rfl, fun H => .adr a⟩
end DL

set_option Elab.async false
set_option linter.all false
set_option maxRecDepth 100000
set_option maxHeartbeats 2000000
namespace DL
open PySem PySem.Spec L2
open PyProof.Rows hiding St
/-! ## list.count of truths -/
theorem pDs_bls : ∀ ys : List Bool, pDs (ys.map Da.bl) = ys.map PyData.bool
  | [] => rfl
  | y :: ys => by rw [List.map_cons, pDs, pDs_bls ys]; rfl
theorem plains_bls : ∀ ys : List Bool, plains (ys.map Da.bl) = true
  | [] => rfl
  | y :: ys => by rw [List.map_cons, plains, plains_bls ys]; rfl
theorem plainAll_bls : ∀ ys : List Bool, PyData.plainAll (ys.map PyData.bool) = true
  | [] => by simp [PyData.plainAll]
  | y :: ys => by rw [List.map_cons, PyData.plainAll, plainAll_bls ys]; simp [PyData.plain]
theorem depthAll_bls : ∀ ys : List Bool, PyData.depthAll (ys.map PyData.bool) = 0
  | [] => by simp [PyData.depthAll]
  | y :: ys => by rw [List.map_cons, PyData.depthAll, depthAll_bls ys]; simp [PyData.depth]
theorem countP_bls (x : Bool) : ∀ ys : List Bool, (ys.map PyData.bool).countP (fun y => PyData.eqv y (.bool x)) = ys.countP fun y => decide (y = x)
  | [] => rfl
  | y :: ys => by
    rw [List.map_cons, List.countP_cons, List.countP_cons, countP_bls x ys]
    have : PyData.eqv (.bool y) (.bool x) = decide (y = x) := by
      cases x <;> cases y <;> simp [PyData.eqv]
    rw [this]
section
variable {X : Cx} {rs : List Res} {Q : EQ} {r1 : Rv}
theorem mv_countB {ys : List Bool} {x : Bool} (hu : Un2 X) (w : Vw rs r1 (.lst (ys.map Da.bl))) (q : Q (.sh (.int (ys.countP fun y => decide (y = x) : Nat))) rs) : MV X "list.count" r1 [.sh (.bl x)] rs Q :=
  ⟨fun T H v vs R p pp pins s σ u us I r rv => by
    obtain ⟨v2, rfl, p2⟩ := rp1 pp
    obtain ⟨a, ws, e, hl, rp⟩ := w.lstv' R p
    subst e
    obtain ⟨u2, rfl, r2⟩ := vals1 rv
    obtain rfl : u = Value.ref a := r
    obtain ⟨its, rvs, hpl, hz⟩ := I.list (SqL.of hl)
    obtain ⟨as, hr⟩ := readsAll_of I R.h0 _ (plains_bls ys) rp rvs
    rw [pDs_bls] at hr
    cases p2
    obtain rfl : u2 = Value.bool x := r2
    have hu : X.A.units + 150 < cLine := hu
    refine PySem.SeqAt.count_list_data (d := .bool x) hpl.isList (by rw [List.toList_toArray]; exact hr) (.bool x) (plainAll_bls ys) rfl (by rw [depthAll_bls]; show _ + 1 + min 0 _ < _; omega) ?_
    rw [countP_bls]
    exact ⟨.int _, H, I.tok _, ⟨_, rfl⟩, epost R (r := .sh (.int _)) (.int _) q⟩⟩
end
end DL

set_option Elab.async false
set_option linter.all false
set_option maxRecDepth 100000
set_option maxHeartbeats 2000000
namespace DL
open PySem PySem.Spec L2
open PyProof.Rows hiding St
/-! ## != by an own __eq__ -/
section
variable {prog : Program} {w : World} {A : Around} {E : Value → Shared → Prop} {s : Shared} {K : PySem.W.Frag} {x C L f : Addr} {h₀ : Heap} {m : Str → Option Value} {ox : Obj} {od : Option Obj} {b tb : Value} {name : Str} {id : String}
theorem ne_bind (v : Value) : bindSpecial (.builtin "object.__ne__") v = pure (.builtin "object.__ne__", [v]) := by first | kernel_rfl | rfl
theorem ne_plain : plainId "object.__ne__" = true := by decide +kernel
theorem ifBound_B {M : Model} {args : List Value} {Q : Option Value → Shared → Prop} (X : K.In s.heap) (I : PySem.W.InstAt s.heap x ox C od) (hs : PySem.W.findIn K (.ref C) name = some (some (.builtin id))) (hb : ∀ v, bindSpecial (.builtin id) v = pure (.builtin id, [v]))
    (h : wpAny M A (call (.builtin id) (.ref x :: args)) (fun v => Q (some v)) E s) : wpAny M A (callSpecialIfBound? (.ref x) name args) Q E s := by
  simp only [callSpecialIfBound?, bindSpecialIfBound?]
  refine wpAny_holding (wpAny_bind (wpAny_bind (wpAny_bind (I.type.here ((PySem.W.looks_findIn X hs).here ?_)))))
  simp only [hb]
  refine wpAny_bind (wpAny_askSetting (wpAny_ite ?_))
  have fin : wpAny M A (call (.builtin id) ([.ref x] ++ args) >>= fun v => pure (some v)) Q E s := wpAny_bind (wpAny_mono h (fun v s' h' => wpAny_pure h') fun _ _ h' => h')
  split
  · exact wpAny_bind (wpAny_pure (wpAny_pure fin))
  · exact wpAny_tryCatch (wpAny_bind (wpAny_pure (wpAny_pure fin)))
theorem ne_K {Q : Value → Shared → Prop} (hu : A.units + 1 < cLine) (F : Fr h₀ L s.heap m) (X₀ : K.In h₀) (I : PySem.W.InstAt s.heap x ox C od) (hb : PySem.W.Looks (model prog w) s.heap (typeOf b) tb) (hn : PySem.W.notFirst K C tb = true)
    (hne : PySem.W.findIn K (.ref C) "__ne__" = some (some (.builtin "object.__ne__"))) (hob : PySem.W.subIn K (.ref C) (.type "object") = some true)
    (hs : PySem.W.findIn K (.ref C) "__eq__" = some (some (.ref f))) (hf : PySem.W.isFn K (.ref f) = true)
    (h : wpAny (model prog w) A.in1 (call (.ref f) [.ref x, b]) (fun v s' => ∃ r, v = .bool r ∧ Q (.bool (!r)) s') E s) : wpAny (model prog w) A (richCompare .NotEq (.ref x) b) Q E s := by
  have X := X₀.keeps F.keep
  have one : wpAny (model prog w) A (tryCompare (.ref x) "__ne__" b) (fun r s' => ∃ v, r = some v ∧ Q v s') E s := by
    unfold tryCompare
    refine wpAny_bind (ifBound_B X I hne ne_bind (wpAny_call (codeAny_call_builtin ne_plain PySem.F.cmpEntry_ne (PySem.W.check_slot PySem.F.cmpKind_ne PySem.F.cmpSplit_ne (I.type.andThen (PySem.W.looks_subIn X hob)) (PySem.F.cmpArgs_ne _ _) ?_))))
    obtain ⟨hp, g, d, t, os⟩ := s
    have hu1 : A.in1.units < cLine := by have : A.in1.units = A.units + 1 := rfl; omega
    unfold Builtin.«object.__ne__»
    repeat (first
      | with_reducible refine wpAny_cRoomFor hu1 ?_
      | (refine wpAny_bind (m := callSpecialIfBound? (.ref x) (Str.ofString "__eq__") [b])
          (PySem.W.ifBound_K X I hs hf (wpAny_mono h (fun r s' hr => by
            obtain ⟨r, rfl, hq⟩ := hr
            repeat (first | exact ⟨_, rfl, hq⟩ | exact ⟨_, rfl, wpAny_pure hq⟩ | exact wpAny_pure hq | exact wpAny_truthy_bool hq | (refine wpAny_bind (m := truthy (.bool _)) (wpAny_truthy_bool ?_)) | wp_step)) fun _ _ e => e)))
      | wp_step)
  unfold richCompare
  simp only [oneThing_ref]
  refine wpAny_holding (wpAny_bind (wpAny_cRoomFor (by omega) ?_))
  refine wpAny_bind (I.type.here (wpAny_bind (hb.here ?_)))
  split
  · rename_i q
    have e : PySem.W.subIn K tb (.ref C) = some false := by
      rcases Bool.or_eq_true_iff.mp hn with e | e
      · rw [beq_iff_eq.mp e] at q; simp at q
      · exact beq_iff_eq.mp e
    refine wpAny_bind ((PySem.W.looks_subIn X e).here ?_)
    simp only [Bool.false_eq_true, if_false]
    refine wpAny_bind (wpAny_mono one (fun r s' z => ?_) fun _ _ e => e)
    obtain ⟨v, rfl, hq⟩ := z
    exact wpAny_pure hq
  · refine wpAny_bind (wpAny_pure ?_)
    simp only [Bool.false_eq_true, if_false]
    refine wpAny_bind (wpAny_mono one (fun r s' z => ?_) fun _ _ e => e)
    obtain ⟨v, rfl, hq⟩ := z
    exact wpAny_pure hq
end
/-! ## == and != of things that have their own __eq__ -/
/-- the own == (or != by it) of a thing at C with one at C: what the contract says -/
def rO (K : PySem.W.Frag) (C : Addr) (c : Ct) (g : Bool → Bool) : R2 := fun x y H Q => ∃ a b dx dy fs gs, x = .ref a ∧ y = .ref b ∧ H a = some (.ins C dx fs) ∧ H b = some (.ins C dy gs) ∧ cSp K c [x, y] H (fun v H' => ∃ r, v = .bl r ∧ Q (.bl (g r)) H') E0
section
variable {X : Cx} {n : Nat} {C f : Addr} {fd : FuncData} {c : Ct}
theorem call_own {A : Around} {pins : List (Addr × Obj)} {s : Shared} {σ : L2.St} {H : Hp} {a b : Addr} {g : Bool → Bool} {Q : VK} (F : FnOk X.prog X.w X.K X.mg X.base CX0 n f fd ["self", "other"] (cSp X.K c)) (hb : Binds X.K fd ["self", "other"] []) (hr : Room n A) (hfr : A.frames = X.A.frames) (I : Inv X pins σ H s)
    (h : cSp X.K c [.ref a, .ref b] H (fun v H' => ∃ r, v = .bl r ∧ Q (.bl (g r)) H') E0) : wpAny (model X.prog X.w) A (call (.ref f) [.ref a, .ref b]) (fun v s' => ∃ r, v = .bool r ∧ EP X pins σ Q (.bool (g r)) s') X.xe s := by
  have e0 : Env0 X.prog X.w X.K X.mg X.base A X.stack s H := by
    have e := I.env0
    exact ⟨by rw [hfr]; exact e.frames, e.mod, e.bs, e.bsz, e.funs, e.frf, e.hok, e.bare⟩
  have hl := F.len _ _ _ _ h
  have r2 : Vals [V.ref a, V.ref b] [Value.ref a, Value.ref b] := .cons rfl (.cons rfl .nil)
  refine wpAny_call (codeAny_mono (F.run A X.stack s H ⟨[.ref a, .ref b], []⟩ [.ref a, .ref b] [.ref a, .ref b] _ E0 hr e0 (by
    have := hb s [.ref a, .ref b] I.kIn (by simpa using hl)
    simpa using this) r2 h) fun r s' hq => ?_)
  cases r with
  | error e => exact pass0 pins σ H s e s' I hq
  | ok fl =>
    cases fl with
    | ret w =>
      obtain ⟨z, H', I', rz, b, ez, ex⟩ := I.after hq
      subst ez
      cases rz
      exact ⟨b, rfl, .bl (g b), H', I', rfl, ex⟩
    | next => exact False.elim hq
    | brk => exact False.elim hq
    | cont => exact False.elim hq
theorem op_eqO (F : FnOk X.prog X.w X.K X.mg X.base CX0 n f fd ["self", "other"] (cSp X.K c)) (hs : PySem.W.findIn X.K (.ref C) "__eq__" = some (some (.ref f))) (hf : PySem.W.isFn X.K (.ref f) = true) (hb : Binds X.K fd ["self", "other"] []) (hr : Room n X.A) : OpR X (compareOp .Eq) (rO X.K C c id) := by
  intro pins s σ H x y v u Q I rx ry h
  obtain ⟨a, b, dx, dy, fs, gs, rfl, rfl, ha, hb', h⟩ := h
  cases rx
  cases ry
  obtain ⟨mA, J, _⟩ := ins_get I.hok ha
  obtain ⟨mB, J', _⟩ := ins_get I.hok hb'
  obtain ⟨od, J, _⟩ := J.look
  obtain ⟨od', J', _⟩ := J'.look
  obtain ⟨m, hF⟩ := I.fr
  show wpAny (model X.prog X.w) X.A (richCompare .Eq _ _) (EP X pins σ Q) X.xe s
  refine PySem.W.cmp_K (op := .Eq) (tb := .ref C) hr.units0 hF I.ok.mod.kin J J'.type (by simp [PySem.W.notFirst]) hs hf ?_
  refine wpAny_mono (call_own F hb hr rfl I h) (fun v s' q => ?_) fun _ _ e => e
  obtain ⟨r, rfl, q⟩ := q
  exact q
theorem op_neO (F : FnOk X.prog X.w X.K X.mg X.base CX0 n f fd ["self", "other"] (cSp X.K c)) (hs : PySem.W.findIn X.K (.ref C) "__eq__" = some (some (.ref f))) (hf : PySem.W.isFn X.K (.ref f) = true) (hb : Binds X.K fd ["self", "other"] []) (hne : PySem.W.findIn X.K (.ref C) "__ne__" = some (some (.builtin "object.__ne__"))) (hob : PySem.W.subIn X.K (.ref C) (.type "object") = some true) (hr : Room (n + 1) X.A) : OpR X (compareOp .NotEq) (rO X.K C c not) := by
  intro pins s σ H x y v u Q I rx ry h
  obtain ⟨a, b, dx, dy, fs, gs, rfl, rfl, ha, hb', h⟩ := h
  cases rx
  cases ry
  obtain ⟨mA, J, _⟩ := ins_get I.hok ha
  obtain ⟨mB, J', _⟩ := ins_get I.hok hb'
  obtain ⟨od, J, _⟩ := J.look
  obtain ⟨od', J', _⟩ := J'.look
  obtain ⟨m, hF⟩ := I.fr
  show wpAny (model X.prog X.w) X.A (richCompare .NotEq _ _) (EP X pins σ Q) X.xe s
  refine ne_K (tb := .ref C) hr.in1.units0 hF I.ok.mod.kin J J'.type (by simp [PySem.W.notFirst]) hne hob hs hf ?_
  refine wpAny_mono (call_own F hb hr.in1 rfl I h) (fun v s' q => ?_) fun _ _ e => e
  obtain ⟨r, rfl, q⟩ := q
  exact ⟨r, rfl, q⟩
/-- a class's own == -/
structure EqC (P : Program) (w : World) (K : PySem.W.Frag) (mg : Str → Option Value) (base : Heap) (C : Addr) (k : Nat) (c : Ct) : Prop where
  ex : ∃ f fd, PySem.W.findIn K (.ref C) "__eq__" = some (some (.ref f)) ∧ PySem.W.isFn K (.ref f) = true ∧ Binds K fd ["self", "other"] [] ∧ FnOk P w K mg base CX0 k f fd ["self", "other"] (cSp K c)
  ne : PySem.W.findIn K (.ref C) "__ne__" = some (some (.builtin "object.__ne__"))
  ob : PySem.W.subIn K (.ref C) (.type "object") = some true
  mono : Mono c
variable {rs : List Res} {Q : EQ} {r1 r2 : Rv} {k : Nat} {fs gs : List (Str × Da)}
theorem bv_own {f : Value → Value → Sem Value} {g : Bool → Bool} (O : OpR X f (rO X.K C c g)) (mono : Mono c) (w1 : InsV rs r1 C fs) (w2 : InsV rs r2 C gs) (h : Kc c [r1, r2] rs fun r rs' => ∃ b, r = .sh (.bl b) ∧ Q (.sh (.bl (g b))) rs') : BV X f r1 r2 rs Q :=
  bv_of O fun T H v1 v2 R p1 p2 => by
    obtain ⟨a, dx, gs1, rfl, ha, _⟩ := w1.at R p1
    obtain ⟨b, dy, gs2, rfl, hb, _⟩ := w2.at R p2
    refine ⟨a, b, dx, dy, gs1, gs2, rfl, rfl, ha, hb, ?_⟩
    obtain ⟨T', rs', as', h1, h2, h3⟩ := h.sp (E := E0) R (.cons p1 (.cons p2 .nil)) mono
    exact ⟨T', rs', as', h1, h2, mono _ _ _ _ (fun r rs'' q v T'' H'' l R'' p'' => by
      obtain ⟨T3, rs3, r3, l3, R3, p3, b, rfl, q⟩ := q v T'' H'' l R'' p''
      have ev := blOf p3
      exact ⟨b, ev, T3, rs3, .sh (.bl (g b)), l3, R3, .bl _, q⟩) h3⟩
theorem bv_eqO (E : EqC X.prog X.w X.K X.mg X.base C k c) (hr : Room k X.A) (w1 : InsV rs r1 C fs) (w2 : InsV rs r2 C gs) (h : Kc c [r1, r2] rs fun r rs' => ∃ b, r = .sh (.bl b) ∧ Q (.sh (.bl b)) rs') : BV X (compareOp .Eq) r1 r2 rs Q := by
  obtain ⟨f, fd, h1, h2, h3, h4⟩ := E.ex
  exact bv_own (g := id) (op_eqO h4 h1 h2 h3 hr) E.mono w1 w2 h
theorem bv_neO (E : EqC X.prog X.w X.K X.mg X.base C k c) (hr : Room (k + 1) X.A) (w1 : InsV rs r1 C fs) (w2 : InsV rs r2 C gs) (h : Kc c [r1, r2] rs fun r rs' => ∃ b, r = .sh (.bl b) ∧ Q (.sh (.bl (!b))) rs') : BV X (compareOp .NotEq) r1 r2 rs Q := by
  obtain ⟨f, fd, h1, h2, h3, h4⟩ := E.ex
  exact bv_own (g := not) (op_neO h4 h1 h2 h3 E.ne E.ob hr) E.mono w1 w2 h
end
/-! ## isinstance of an own thing -/
structure OwnC (K : PySem.W.Frag) (C : Addr) : Prop where
  cl : Cls K C
  ha : PySem.W.findIn K (.ref C) "__class__" = some (some (.builtin "object.__class__"))
  hn : PySem.W.specialIn K (.builtin "object.__class__") "__get__" = some (some (.builtin "getset_descriptor.__get__"))
  ht : PySem.W.takesIn K (.builtin "object.__class__") = some true
  hm : PySem.W.mroIn K C (.type "object") = some true
theorem cv_isO {X : Cx} {rs : List Res} {Q : EQ} {r1 : Rv} {C : Addr} {fs : List (Str × Da)} (O : OwnC X.K C) (w1 : InsV rs r1 C fs) (q : Q (.sh (.bl true)) rs) : CV X (.builtin "isinstance") [r1, .sh (.adr C)] rs Q :=
  cv_of call_isi fun T H vs R pp => by
    obtain ⟨v, w', rfl, p, p'⟩ := rp2 pp
    cases p'
    obtain ⟨a, dx, gs, rfl, ha, _⟩ := w1.at R p
    exact ⟨.ref a, .ref C, .ref C, .ref C, true, rfl, .own C, .base (.ins ha O.cl O.ha O.hn O.ht O.hm), kitOne_self, epost R (r := .sh (.bl true)) (.bl _) q⟩
/-! ## == of dicts with tuple keys -/
section
variable {prog : Program} {w : World} {K : Type} [DecidableEq K] {knd : HeapKind prog w K} {A : Around} {E : Value → Shared → Prop} {s : Shared}
inductive HitsH (A : Around) (s : Shared) (xb : List (K × Addr × Value)) : List (K × Addr × Value) → Bool → Prop
  | nil : HitsH A s xb [] true
  | miss {k : K} {a : Addr} {v : Value} {r : List (K × Addr × Value)} : atKey xb k = none → HitsH A s xb ((k, a, v) :: r) false
  | hit {k : K} {a : Addr} {v : Value} {p : Addr × Value} {r : List (K × Addr × Value)} {e b : Bool} : atKey xb k = some p → SeqAt.EqAt A s v p.2 e → HitsH A s xb r b → HitsH A s xb ((k, a, v) :: r) (e && b)
theorem HitsH.inv {xb : List (K × Addr × Value)} {k : K} {a : Addr} {v : Value} {r : List (K × Addr × Value)} {b : Bool} (h : HitsH A s xb ((k, a, v) :: r) b) :
    (atKey xb k = none ∧ b = false) ∨ ∃ p e b', atKey xb k = some p ∧ SeqAt.EqAt A s v p.2 e ∧ HitsH A s xb r b' ∧ b = (e && b') := by
  cases h with
  | miss hn => exact .inl ⟨hn, rfl⟩
  | hit hy he hr => exact .inr ⟨_, _, _, hy, he, hr, rfl⟩
theorem samePairsH {nm : String} {a b : Addr} {xa xb : List (K × Addr × Value)} {r : Bool} {Q : Bool → Shared → Prop} (ha : (a == sysModules) = false) (hb : (b == sysModules) = false) (hu : knd.room A)
    (da : s.heap.DictOfH knd a xa) (db : s.heap.DictOfH knd b xb) (hits : xa.length = xb.length → HitsH A s xb xa r) (h : Q (xa.length == xb.length && r) s) :
    wpAny (model prog w) A (Builtin.Dict.samePairs nm a b) Q E s := by
  obtain ⟨oa, es, ep, hoa, _, hda, hea, hia, hna⟩ := da
  obtain ⟨ob, es', ep', hob, _, hdb, heb, hib, hnb⟩ := db
  have hla : es.size = xa.length := size_of_entries hea
  have hlb : es'.size = xb.length := size_of_entries heb
  rw [← hla, ← hlb] at h
  unfold Builtin.Dict.samePairs Builtin.Dict.showsAll
  rw [if_neg (show ¬ (a == sysModules) = true by rw [ha]; exact Bool.false_ne_true), if_neg (show ¬ (b == sysModules) = true by rw [hb]; exact Bool.false_ne_true)]
  refine wpAny_bind (wpAny_pure (wpAny_bind (wpAny_pure ?_)))
  refine wpAny_bind (wpAny_dictEntries hoa hda ?_)
  dsimp only
  refine wpAny_bind (wpAny_dictEntries hob hdb ?_)
  by_cases hsz : es.size = es'.size
  case neg =>
    rw [if_pos (by simpa using hsz)]
    have hbf : (es.size == es'.size) = false := by simpa using hsz
    rw [hbf, Bool.false_and] at h
    exact wpAny_bind (wpAny_rule (wpAny_pure h))
  case pos =>
    have h' : Q r s := by simpa [hsz] using h
    have hits' := hits (by rw [← hla, ← hlb]; exact hsz)
    rw [if_neg (by rw [hsz]; simp)]
    refine wpAny_bind (wpAny_dictEpoch hoa hda ?_)
    refine wpAny_bind ?_
    rw [Std.Legacy.Range.forIn_eq_forIn_range']
    simp only [Std.Legacy.Range.size, Nat.sub_zero, Nat.add_sub_cancel, Nat.div_one]
    refine wpAny_forIn_list _
      (fun rest q s' => s' = s ∧ q = (none, ()) ∧ ∃ i, rest = List.range' i (es.size - i) ∧ i ≤ es.size ∧ HitsH A s xb (xa.drop i) r)
      _ ?_ ?_ _ _ ⟨rfl, rfl, 0, by simp, Nat.zero_le _, hits'⟩
    · rintro x rest q s' ⟨rfl, rfl, i, hr, hi, hpre⟩
      have hlt : i < es.size := by
        rcases Nat.lt_or_ge i es.size with h | h
        · exact h
        · rw [Nat.sub_eq_zero_of_le h] at hr; simp at hr
      obtain ⟨rfl, hrest⟩ : x = i ∧ rest = List.range' (i + 1) (es.size - (i + 1)) := by
        have e : es.size - i = (es.size - (i + 1)) + 1 := by omega
        rw [e, List.range'_succ] at hr
        injection hr with h1 h2
        exact ⟨h1, h2⟩
      refine wpAny_bind (wpAny_dictEntries hoa hda ?_)
      have hlt' : x < xa.length := by rw [← hla]; exact hlt
      obtain ⟨⟨k, ak, v⟩, hkv⟩ : ∃ y, xa[x]? = some y := ⟨xa[x], List.getElem?_eq_getElem hlt'⟩
      have hkv2 : xa[x] = (k, ak, v) := by rw [List.getElem?_eq_getElem hlt'] at hkv; exact Option.some.inj hkv
      have hdrop : xa.drop x = (k, ak, v) :: xa.drop (x + 1) := by rw [← hkv2]; exact List.drop_eq_getElem_cons hlt'
      have hex : es[x]? = some ⟨knd.hash k, .ref ak, v⟩ := by rw [entry_at hea x, hkv]; rfl
      have hik : knd.is s'.heap k ak := hia _ (List.mem_of_getElem? hkv)
      rw [hdrop] at hpre
      rw [hex]
      show wpAny _ _ (holding [Value.ref ak, v] _ >>= _) _ _ _
      refine wpAny_bind (wpAny_holding (wpAny_bind (wpAny_dictFind_heap hu hik hob hdb heb hib hnb (fun hno => ?_) (fun j p hj => ?_))))
      · have hn : atKey xb k = none := atKey_none_of_get hno
        rcases hpre.inv with ⟨_, er⟩ | ⟨y, _, _, hy, _⟩
        · rw [er] at h'
          refine wpAny_pure ?_
          show wpAny _ _ (if (!false) = true then _ else _) _ _ _
          rw [if_pos (by decide)]
          exact wpAny_pure (wpAny_pure h')
        · rw [hn] at hy; exact nomatch hy
      · have hv' : atKey xb k = some p := atKey_of_get hnb hj
        refine wpAny_bind (wpAny_dictEntries hob hdb ?_)
        rw [entry_at heb j, hj]
        rcases hpre.inv with ⟨hn, _⟩ | ⟨y, e, b', hy, he, hrr, er⟩
        · rw [hv'] at hn; exact nomatch hn
        · have ey : p = y := Option.some.inj (hv'.symm.trans hy)
          subst ey
          refine wpAny_holding (he prog w _ _ ?_)
          cases e with
          | false =>
            rw [er, Bool.false_and] at h'
            show wpAny _ _ (if (!false) = true then _ else _) _ _ _
            rw [if_pos (by decide)]
            exact wpAny_pure (wpAny_pure h')
          | true =>
            rw [Bool.true_and] at er
            rw [← er] at hrr
            show wpAny _ _ (if (!true) = true then _ else _) _ _ _
            rw [if_neg (by decide)]
            refine wpAny_bind (wpAny_dictEpoch hoa hda ?_)
            rw [if_neg (by simp)]
            exact wpAny_pure ⟨rfl, rfl, x + 1, hrest, hlt, hrr⟩
    · rintro q s' ⟨rfl, rfl, i, hr, hi, hpre⟩
      have hin : i = es.size := by
        rcases Nat.lt_or_ge i es.size with h | h
        · have e : es.size - i = (es.size - (i + 1)) + 1 := by omega
          rw [e, List.range'_succ] at hr; exact nomatch hr
        · exact Nat.le_antisymm hi h
      refine wpAny_pure ?_
      rw [hin, hla, List.drop_length] at hpre
      cases hpre
      exact h'
theorem eqH {a b : Addr} {xa xb : List (K × Addr × Value)} {r : Bool} {Q : Value → Shared → Prop} (ha : (a == sysModules) = false) (hb : (b == sysModules) = false) (hk : knd.room A.in1)
    (da : s.heap.DictOfH knd a xa) (db : s.heap.DictOfH knd b xb) (hu : A.units < cLine) (hits : xa.length = xb.length → HitsH A.in1 s xb xa r) (h : Q (.bool (xa.length == xb.length && r)) s) :
    wpAny (model prog w) A (compareOp .Eq (.ref a) (.ref b)) Q E s := by
  refine wpAny_richCompare_same_room (op := .Eq) da.typeIs db.typeIs PySem.F.slot_dict_eq (wpAny_call_entry PySem.F.slot_dict_eq da.typeIs PySem.F.entry_dict_eq ?_ (PySem.F.args_dict_eq_2 _ _)) hu
  show wpAny _ _ (Builtin.Dict.dictSlotArgs "__eq__" ⟨[.ref a, .ref b], []⟩ >>= _) _ _ s
  refine wpAny_bind ?_
  unfold Builtin.Dict.dictSlotArgs
  refine wpAny_bind (wpAny_notOrdered_dict da.typeIs ?_)
  show wpAny _ _ (pure (Value.ref a, Value.ref b)) _ _ s
  refine wpAny_pure ?_
  refine wpAny_bind (wpAny_isInstance (T := "dict") db.typeIs PySem.F.sub_dict_dict ?_)
  simp only [Bool.not_true, Bool.false_eq_true, if_false]
  refine wpAny_bind (wpAny_pure (wpAny_bind (wpAny_pure ?_)))
  refine wpAny_bind (samePairsH ha hb hk da db hits ?_)
  refine wpAny_pure ⟨_, rfl, ?_, ?_⟩
  · exact fun x => nomatch x
  · simpa using h
end
end DL

set_option Elab.async false
set_option linter.all false
set_option maxRecDepth 100000
set_option maxHeartbeats 2000000
namespace DL
open PySem PySem.Spec L2
open PyProof.Rows hiding St
/-! ## boards compared -/
def sameR (ra rb : List RowT) : Bool := decide (ra.length = rb.length) && ra.all fun r => decide ((rb.find? fun q => decide (q.1 = r.1 ∧ q.2.1 = r.2.1)).map (·.2.2) = some r.2.2)
def vR (rows : List RowT) : List (List Key × V) := rows.map fun r => ([.inr r.1, .inr r.2.1], .str r.2.2)
theorem rpT_rows {K : PySem.W.Frag} {H : Hp} : ∀ {kvs : List (List Key × V)} {rows : List RowT}, RpT K H kvs (kvR rows) → kvs = vR rows
  | _, [], .nil => rfl
  | _, r :: rows, .cons (.str _) t => by rw [rpT_rows t]; rfl
theorem valV_vR (x y : Str) : ∀ rows : List RowT, valV (vR rows) [.inr x, .inr y] = ((rows.find? fun r => decide (r.1 = x ∧ r.2.1 = y)).map fun r => V.str r.2.2)
  | [] => rfl
  | r :: rows => by
    show valV (([Sum.inr r.1, Sum.inr r.2.1], V.str r.2.2) :: vR rows) _ = _
    by_cases h : r.1 = x ∧ r.2.1 = y
    · rw [valV_pos (p := ([Sum.inr r.1, Sum.inr r.2.1], V.str r.2.2)) (by rw [h.1, h.2]), List.find?_cons, decide_eq_true h]; rfl
    · rw [valV_neg (p := ([Sum.inr r.1, Sum.inr r.2.1], V.str r.2.2)) (by intro z; simp at z; exact h z), List.find?_cons, decide_eq_false h]
      exact valV_vR x y rows
theorem hits_rows {A : Around} {s : Shared} {H : Hp} {rb : List RowT} {xb : List (List Key × Addr × Value)} (hb : KT H (vR rb) xb) : ∀ {ra : List RowT} {xa : List (List Key × Addr × Value)}, KT H (vR ra) xa →
    HitsH A s xb xa (ra.all fun r => decide ((rb.find? fun q => decide (q.1 = r.1 ∧ q.2.1 = r.2.1)).map (·.2.2) = some r.2.2))
  | [], _, .nil => .nil
  | r :: ra, _, .cons (b := q) h t => by
    obtain ⟨k, ak, v⟩ := q
    obtain ⟨h1, _, h3⟩ := h
    have h1 : [Sum.inr r.1, Sum.inr r.2.1] = k := h1
    obtain ⟨tv, h3⟩ : ∃ t, v = Value.str r.2.2 t := h3
    subst h1 h3
    have ih := hits_rows (A := A) (s := s) hb t
    have hv := hb.val [.inr r.1, .inr r.2.1]
    rw [valV_vR] at hv
    rw [List.all_cons]
    cases hf : rb.find? fun q => decide (q.1 = r.1 ∧ q.2.1 = r.2.1) with
    | none =>
      rw [hf] at hv
      have hn : atKey xb [.inr r.1, .inr r.2.1] = none := Option.map_eq_none_iff.mp (RelO.none_of hv)
      rw [show decide (((none : Option RowT).map fun q : RowT => q.2.2) = some r.2.2) = false by simp, Bool.false_and]
      exact .miss hn
    | some z =>
      rw [hf] at hv
      obtain ⟨u, hu, ru⟩ := RelO.some_of hv
      obtain ⟨p, hp, rfl⟩ := Option.map_eq_some_iff.mp hu
      obtain ⟨tu, ru⟩ : ∃ t, p.2 = Value.str z.2.2 t := ru
      have e : decide (((some z : Option RowT).map fun q : RowT => q.2.2) = some r.2.2) = (r.2.2 == z.2.2) := by
        rw [Bool.eq_iff_iff]
        simp only [Option.map_some, Option.some.injEq, decide_eq_true_eq, beq_iff_eq]
        exact ⟨fun z => z.symm, fun z => z.symm⟩
      rw [e]
      refine .hit hp ?_ ih
      rw [ru]
      exact SeqAt.EqAt.str_str _ _ _ _
def rEqR : R2 := fun x y H Q => ∃ a b ra rb, x = .ref a ∧ y = .ref b ∧ H a = some (.dT (vR ra)) ∧ H b = some (.dT (vR rb)) ∧ Q (.bl (sameR ra rb)) H
section
variable {X : Cx} {rs : List Res} {Q : EQ} {r1 r2 : Rv}
theorem op_eqR (hu : X.A.units + 1 < cLine) : OpR X (compareOp .Eq) rEqR := by
  intro pins s σ H x y v u Q I rx ry h
  obtain ⟨a, b, ra, rb, rfl, rfl, ea, eb, q⟩ := h
  cases rx
  cases ry
  obtain ⟨_, ya, xa, ka, da⟩ := dt_of I.hok ea
  obtain ⟨_, yb, xb, kb, db⟩ := dt_of I.hok eb
  have la : xa.length = ra.length := by rw [← ka.length]; unfold vR; rw [List.length_map]
  have lb : xb.length = rb.length := by rw [← kb.length]; unfold vR; rw [List.length_map]
  refine eqH ya yb (tupleKind_room_in1 hu) da db (by omega) (fun _ => hits_rows kb ka) (fin_bl I q ?_)
  rw [la, lb]
  unfold sameR
  congr 1
theorem bv_eqR {ra rb : List RowT} (hu : Un2 X) (w1 : Vw rs r1 (.dT (kvR ra))) (w2 : Vw rs r2 (.dT (kvR rb))) (q : Q (.sh (.bl (sameR ra rb))) rs) : BV X (compareOp .Eq) r1 r2 rs Q :=
  bv_of (op_eqR (by have := hu; unfold Un2 at this; omega)) fun T H v1 v2 R p1 p2 => by
    have q1 := w1.rp R p1
    have q2 := w2.rp R p2
    cases q1 with | dT a1 b1 =>
    cases q2 with | dT a2 b2 =>
    have e1 := rpT_rows b1
    have e2 := rpT_rows b2
    subst e1 e2
    exact ⟨_, _, ra, rb, rfl, rfl, a1, a2, epost R (r := .sh (.bl _)) (.bl _) q⟩
end
/-- boards are equal: rounds and words -/
def eqB (p q : Bd) : Bool := decide (p.a = q.a ∧ p.b = q.b) && sameR p.rows q.rows
theorem find_rowP {rows : List RowT} (h : (rows.map fun r => (r.1, r.2.1)).Nodup) {r : RowT} (hr : r ∈ rows) : (rows.find? fun q => decide (q.1 = r.1 ∧ q.2.1 = r.2.1)) = some r := by
  induction rows with
  | nil => cases hr
  | cons p rows ih =>
    rw [List.map_cons] at h
    obtain ⟨h1, h2⟩ := List.nodup_cons.mp h
    rcases List.mem_cons.mp hr with e | e
    · subst e
      rw [List.find?_cons, decide_eq_true ⟨rfl, rfl⟩]
    · rw [List.find?_cons, decide_eq_false fun z => h1 (List.mem_map.mpr ⟨r, e, by rw [z.1, z.2]⟩)]
      exact ih h2 e
/-- of one lot of rows in any order -/
theorem sameR_perm {ra rb : List RowT} (h : (rb.map fun r => (r.1, r.2.1)).Nodup) (p : ra.Perm rb) : sameR ra rb = true := by
  unfold sameR
  rw [decide_eq_true p.length_eq, Bool.true_and, List.all_eq_true]
  intro r hr
  rw [find_rowP h (p.mem_iff.mp hr)]
  simp
theorem eqB_perm {bd : Bd} {rows : List RowT} (h : (rows.map fun r => (r.1, r.2.1)).Nodup) (p : bd.rows.Perm rows) : eqB bd ⟨bd.a, bd.b, rows⟩ = true := by
  unfold eqB
  rw [decide_eq_true ⟨rfl, rfl⟩, sameR_perm h p]; rfl
theorem eqB_self {bd : Bd} (h : bd.ok) : eqB bd bd = true := eqB_perm h.rows.nd (.refl _)
end DL

set_option Elab.async false
set_option linter.all false
set_option maxRecDepth 100000
set_option maxHeartbeats 2000000
namespace DL
open PySem PySem.Spec L2
/-! ## places, a step back; fences as rings -/
def bkI (i n : Nat) (d : Int) : Nat := (((i : Int) - d) % (n : Int)).toNat
theorem bkI_eq {i n : Nat} {d : Int} (h : 0 < n) : ((bkI i n d : Nat) : Int) = ((i : Int) - d) % (n : Int) := Int.toNat_of_nonneg (Int.emod_nonneg _ (by omega))
theorem bkI_lt {i n : Nat} {d : Int} (h : 0 < n) : bkI i n d < n := by
  have h1 := bkI_eq (i := i) (d := d) h
  have h2 := Int.emod_lt_of_pos ((i : Int) - d) (show (0 : Int) < n by omega)
  omega
def wayA (y : Str) : Int := if y = "second" then 0 else 1
def wayB (y : Str) : Int := if y = "first" then 0 else 1
def bkP (bd : Bd) (p : Nat × Nat) : Nat × Nat := (bkI p.1 bd.a.length (wayA (bd.wd p.1 p.2)), bkI p.2 bd.b.length (wayB (bd.wd p.1 p.2)))
def plD (p : Nat × Nat) : Da := .tup [.int p.1, .int p.2]
def plK (m t : Nat) : List Key := [.inl ((t / m : Nat) : Int), .inl ((t % m : Nat) : Int)]
def plV (bd : Bd) (t : Nat) : Da := plD (bkP bd (t / bd.b.length, t % bd.b.length))
def kvP (bd : Bd) (t : Nat) : List (List Key × Da) := numD (plK bd.b.length) (plV bd) t
theorem plK_inj {m a b : Nat} (h : plK m a = plK m b) : a = b := by
  unfold plK at h
  simp only [List.cons.injEq, Sum.inl.injEq, and_true] at h
  have h1 : a / m = b / m := by omega
  have h2 : a % m = b % m := by omega
  rw [← Nat.div_add_mod a m, ← Nat.div_add_mod b m, h1, h2]
theorem div_pl {m i j : Nat} (h : j < m) : (i * m + j) / m = i ∧ (i * m + j) % m = j := by
  constructor
  · rw [Nat.add_comm, Nat.add_mul_div_right _ _ (by omega), Nat.div_eq_of_lt h, Nat.zero_add]
  · rw [Nat.add_comm, Nat.add_mul_mod_self_right, Nat.mod_eq_of_lt h]
def bkK (bd : Bd) : List Key → List Key
  | [.inl i, .inl j] => [.inl ((bkP bd (i.toNat, j.toNat)).1 : Nat), .inl ((bkP bd (i.toNat, j.toNat)).2 : Nat)]
  | k => k
def plKs (bd : Bd) (n : Nat) : List (List Key) := (List.range n).map (plK bd.b.length)
theorem kvP_eq (bd : Bd) (n : Nat) : kvP bd n = kvL (bkK bd) (plKs bd n) := by
  unfold kvP numD kvL plKs
  rw [List.map_map]; rfl
theorem plKs_mem {bd : Bd} {i j : Nat} (hi : i < bd.a.length) (hj : j < bd.b.length) : ([.inl (i : Int), .inl (j : Int)] : List Key) ∈ plKs bd (bd.a.length * bd.b.length) := by
  have him : i * bd.b.length + bd.b.length ≤ bd.a.length * bd.b.length := by
    rw [← Nat.succ_mul]; exact Nat.mul_le_mul_right _ hi
  obtain ⟨e1, e2⟩ := div_pl (i := i) hj
  refine List.mem_map.mpr ⟨i * bd.b.length + j, List.mem_range.mpr (by omega), ?_⟩
  unfold plK; rw [e1, e2]
theorem plKs_at {bd : Bd} (h : bd.ok) {k : List Key} (hk : k ∈ plKs bd (bd.a.length * bd.b.length)) : ∃ i j, i < bd.a.length ∧ j < bd.b.length ∧ k = [.inl (i : Nat), .inl (j : Nat)] := by
  obtain ⟨t, ht, rfl⟩ := List.mem_map.mp hk
  have ht := List.mem_range.mp ht
  have h3 := h.b1
  exact ⟨t / bd.b.length, t % bd.b.length, Nat.div_lt_of_lt_mul (by rw [Nat.mul_comm]; exact ht), Nat.mod_lt _ (by omega), rfl⟩
theorem bkP_ok {bd : Bd} (h : bd.ok) (p : Nat × Nat) : (bkP bd p).1 < bd.a.length ∧ (bkP bd p).2 < bd.b.length := by
  have h1 := h.a1
  have h3 := h.b1
  exact ⟨bkI_lt (by omega), bkI_lt (by omega)⟩
theorem leadP {bd : Bd} (h : bd.ok) : LeadOk (bkK bd) (plKs bd (bd.a.length * bd.b.length)) := by
  refine ⟨?_, fun k hk => ?_, ⟨false, [false], fun k hk => ?_⟩, fun k hk => ?_, ?_⟩
  · unfold plKs
    exact List.Pairwise.map _ (fun a b h e => h (plK_inj e)) List.nodup_range
  · obtain ⟨i, j, hi, hj, rfl⟩ := plKs_at h hk
    obtain ⟨h1, h2⟩ := bkP_ok h (i, j)
    exact plKs_mem h1 h2
  · obtain ⟨i, j, _, _, rfl⟩ := plKs_at h hk; rfl
  · obtain ⟨i, j, _, _, rfl⟩ := plKs_at h hk; rfl
  · unfold plKs
    rw [List.length_map, List.length_range]
    have : bd.a.length * bd.b.length ≤ 200 * 200 := Nat.mul_le_mul h.a2 h.b2
    omega
abbrev ledD (bd : Bd) : Da := .dL (kvL (bkK bd) (plKs bd (bd.a.length * bd.b.length)))
noncomputable def fencesK (bd : Bd) : List (List (List Key)) := ringsK (bkK bd) (plKs bd (bd.a.length * bd.b.length))
theorem fencesK_rgs {bd : Bd} (h : bd.ok) : Rgs (plKs bd (bd.a.length * bd.b.length)) (bkK bd) (fencesK bd) := ringsK_rgs (leadP h).cl
def plKey (p : Nat × Nat) : List Key := [.inl (p.1 : Nat), .inl (p.2 : Nat)]
theorem plKey_inj {p q : Nat × Nat} (h : plKey p = plKey q) : p = q := by
  unfold plKey at h
  simp only [List.cons.injEq, Sum.inl.injEq, and_true] at h
  exact Prod.ext (by omega) (by omega)
theorem bkK_key (bd : Bd) (p : Nat × Nat) : bkK bd (plKey p) = plKey (bkP bd p) := by
  show [Sum.inl _, Sum.inl _] = _
  simp only [Int.toNat_natCast]
  rfl
def bkN (bd : Bd) (p : Nat × Nat) : Nat → Nat × Nat
  | 0 => p
  | t + 1 => bkP bd (bkN bd p t)
theorem bkN_add (bd : Bd) (p : Nat × Nat) (t : Nat) : ∀ u, bkN bd p (t + u) = bkN bd (bkN bd p t) u
  | 0 => rfl
  | u + 1 => by show bkP bd (bkN bd p (t + u)) = _; rw [bkN_add bd p t u]; rfl
theorem itB (bd : Bd) (p : Nat × Nat) : ∀ t, itR (bkK bd) (plKey p) t = plKey (bkN bd p t)
  | 0 => rfl
  | t + 1 => by show bkK bd (itR (bkK bd) (plKey p) t) = _; rw [itB bd p t, bkK_key]; rfl
end DL

set_option Elab.async false
set_option linter.all false
set_option maxRecDepth 100000
set_option maxHeartbeats 2000000
namespace DL
open PySem PySem.Spec L2
/-! ## as many rings -/
section
variable {κ κ' : Type} [DecidableEq κ] [DecidableEq κ'] {ks : List κ} {f : κ → κ} {L : List (List κ)} {ks' : List κ'} {f' : κ' → κ'} {L' : List (List κ')}
theorem Cyc.to {c : List κ} (h : Cyc f c) {v w : κ} (hv : v ∈ c) (hw : w ∈ c) : ∃ n, itR f v n = w := by
  obtain ⟨x, e1, e2⟩ := h.at_
  rw [e1] at hv hw
  obtain ⟨i, hi, rfl⟩ := pathR_mem.mp hv
  obtain ⟨k, hk, rfl⟩ := pathR_mem.mp hw
  refine ⟨c.length - i + k, ?_⟩
  rw [← itR_add, show i + (c.length - i + k) = c.length + k by omega, itR_add, e2]
theorem Rgs.one {c d : List κ} (h : Rgs ks f L) {i j : Nat} (hc : L[i]? = some c) (hd : L[j]? = some d) {v : κ} (hv : v ∈ c) (hw : v ∈ d) : i = j := by
  obtain ⟨hi, ei⟩ := List.getElem?_eq_some_iff.mp hc
  obtain ⟨hj, ej⟩ := List.getElem?_eq_some_iff.mp hd
  have pw := List.pairwise_iff_getElem.mp h.dj
  rcases Nat.lt_trichotomy i j with q | q | q
  · have := pw i j hi hj q v; rw [ei, ej] at this; exact absurd hw (this hv)
  · exact q
  · have := pw j i hj hi q v; rw [ei, ej] at this; exact absurd hv (this hw)
open Classical in
theorem Rgs.le (h : Rgs ks f L) (h' : Rgs ks' f' L') (S : κ → κ' → Prop) (ex : ∀ c ∈ L, ∃ x ∈ c, ∃ y, S x y ∧ ∃ d ∈ L', y ∈ d)
    (inj : ∀ c ∈ L, ∀ c' ∈ L, ∀ x ∈ c, ∀ x' ∈ c', ∀ y y', S x y → S x' y' → (∃ n, itR f' y n = y') → ∃ n, itR f x n = x') : L.length ≤ L'.length := by
  have pick : ∀ i, i < L.length → ∃ j, j < L'.length ∧ ∃ c x y d, L[i]? = some c ∧ x ∈ c ∧ S x y ∧ L'[j]? = some d ∧ y ∈ d := fun i hi => by
    obtain ⟨x, hx, y, hs, d, hd, hy⟩ := ex L[i] (List.getElem_mem hi)
    obtain ⟨j, hj, e⟩ := List.getElem_of_mem hd
    exact ⟨j, hj, L[i], x, y, d, List.getElem?_eq_getElem hi, hx, hs, by rw [List.getElem?_eq_getElem hj, e], hy⟩
  let g : Nat → Nat := fun i => if q : i < L.length then (pick i q).choose else 0
  have hg : ∀ i (q : i < L.length), g i < L'.length ∧ ∃ c x y d, L[i]? = some c ∧ x ∈ c ∧ S x y ∧ L'[g i]? = some d ∧ y ∈ d := fun i q => by
    show (if q : i < L.length then (pick i q).choose else 0) < _ ∧ ∃ c x y d, _ ∧ _ ∧ _ ∧ L'[(if q : i < L.length then (pick i q).choose else 0)]? = some d ∧ _
    rw [dif_pos q]
    exact (pick i q).choose_spec
  have := nodup_le L'.length ((List.range L.length).map g) (by
    refine List.Pairwise.map _ (R := fun t u => t ≠ u ∧ t < L.length ∧ u < L.length) (fun t u ⟨hne, h1, h2⟩ z => hne ?_) ?_
    · obtain ⟨_, c, x, y, d, a1, a2, a3, a4, a5⟩ := hg t h1
      obtain ⟨_, c', x', y', d', b1, b2, b3, b4, b5⟩ := hg u h2
      rw [z, b4] at a4
      have ed : d' = d := Option.some.inj a4
      subst ed
      obtain ⟨n, e⟩ := (h'.cyc d' (List.mem_of_getElem? b4)).to a5 b5
      obtain ⟨m, e2⟩ := inj c (List.mem_of_getElem? a1) c' (List.mem_of_getElem? b1) x a2 x' b2 y y' a3 b3 ⟨n, e⟩
      have : x' ∈ c := by rw [← e2]; exact (h.cyc c (List.mem_of_getElem? a1)).nexts a2 m
      exact h.one a1 b1 this b2
    · rw [List.pairwise_iff_getElem]
      intro x y hx hy hxy
      rw [List.length_range] at hx hy
      rw [List.getElem_range, List.getElem_range]
      exact ⟨by omega, hx, hy⟩) fun x hx => by
        obtain ⟨t, ht, rfl⟩ := List.mem_map.mp hx
        exact (hg t (List.mem_range.mp ht)).1
  rwa [List.length_map, List.length_range] at this
theorem Rgs.conj (h : Rgs ks f L) (h' : Rgs ks' f' L') (g : κ → κ') (hcl : ∀ k ∈ ks, f k ∈ ks) (hm : ∀ k ∈ ks, g k ∈ ks') (hc : ∀ k ∈ ks, f' (g k) = g (f k)) (hi : ∀ k ∈ ks, ∀ l ∈ ks, g k = g l → k = l) : L.length ≤ L'.length := by
  have hin : ∀ k ∈ ks, ∀ n, itR f k n ∈ ks := fun k hk n => by
    induction n with
    | zero => exact hk
    | succ n ih => exact hcl _ ih
  have hit : ∀ k ∈ ks, ∀ n, itR f' (g k) n = g (itR f k n) := fun k hk n => by
    induction n with
    | zero => rfl
    | succ n ih => show f' (itR f' (g k) n) = _; rw [ih, hc _ (hin k hk n)]; rfl
  refine h.le h' (fun x y => y = g x) (fun c hcL => ?_) fun c hc1 c' hc2 x hx x' hx' y y' e e' ⟨n, en⟩ => ?_
  · obtain ⟨x, e1, e2⟩ := (h.cyc c hcL).at_
    have hx : x ∈ c := by rw [e1]; exact pathR_mem.mpr ⟨0, (h.cyc c hcL).pos, rfl⟩
    have hxk := h.sub c hcL x hx
    exact ⟨x, hx, g x, rfl, h'.back (hm x hxk) (h.cyc c hcL).pos (by rw [hit x hxk, e2])⟩
  · subst e e'
    have k1 := h.sub c hc1 x hx
    have k2 := h.sub c' hc2 x' hx'
    rw [hit x k1] at en
    exact ⟨n, hi _ (hin x k1 n) _ k2 en⟩
end
/-! ## boards of one size with one word at each place -/
structure Bd.Sam (bd bd' : Bd) : Prop where
  la : bd.a.length = bd'.a.length
  lb : bd.b.length = bd'.b.length
  wd : ∀ i j, i < bd.a.length → j < bd.b.length → bd.wd i j = bd'.wd i j
section
variable {bd bd' : Bd}
theorem Bd.Sam.symm (h : bd.Sam bd') : bd'.Sam bd := ⟨h.la.symm, h.lb.symm, fun i j hi hj => (h.wd i j (by rw [h.la]; exact hi) (by rw [h.lb]; exact hj)).symm⟩
theorem Bd.Sam.tick (h : bd.Sam bd') {s : Sd} (hs : s.ok bd) : bd.tick s = bd'.tick s ∧ bd.fst s = bd'.fst s := by
  have e : bd.fst s = bd'.fst s := by
    unfold Bd.fst
    rw [h.wd _ _ hs.1 hs.2]
  refine ⟨?_, e⟩
  unfold Bd.tick
  rw [e, h.la, h.lb]
theorem Bd.Sam.ok (h : bd.Sam bd') {s : Sd} (hs : s.ok bd) : s.ok bd' := ⟨by rw [← h.la]; exact hs.1, by rw [← h.lb]; exact hs.2⟩
theorem Bd.Sam.go (h : bd.Sam bd') (hok : bd.ok) {s : Sd} (hs : s.ok bd) : ∀ t, bd.go s t = bd'.go s t ∧ bd.F s t = bd'.F s t
  | 0 => ⟨rfl, rfl⟩
  | t + 1 => by
    obtain ⟨h1, h2⟩ := h.go hok hs t
    obtain ⟨h3, h4⟩ := h.tick (Bd.go_ok hok hs t)
    refine ⟨?_, ?_⟩
    · show bd.tick (bd.go s t) = bd'.tick (bd'.go s t)
      rw [h3, h1]
    · rw [Bd.F_succ, Bd.F_succ, h2, h4, h1]
theorem Bd.Sam.trip (h : bd.Sam bd') (hok : bd.ok) {s : Sd} {n : Nat} (ht : bd.Trip s n) : bd'.Trip s n :=
  ⟨h.ok ht.ok, ht.pos, by rw [← (h.go hok ht.ok n).1]; exact ht.back, fun m hm em => ht.least m hm (by rw [(h.go hok ht.ok m).1]; exact em)⟩
theorem Bd.Sam.pc (h : bd.Sam bd') (hok : bd.ok) (hok' : bd'.ok) : bd.pcP = bd'.pcP ∧ bd.pcQ = bd'.pcQ := by
  obtain ⟨s, n, ht⟩ := trip_pc hok
  obtain ⟨a1, a2, _⟩ := ht.pc hok
  obtain ⟨b1, b2, _⟩ := (h.trip hok ht).pc hok'
  have e := (h.go hok ht.ok n).2
  unfold Bd.pcP Bd.pcQ
  rw [← a1, ← a2, ← b1, ← b2, e, h.la, h.lb]
  exact ⟨rfl, rfl⟩
theorem Bd.Sam.stKs (h : bd.Sam bd') : stKs bd bd.all = DL.stKs bd' bd'.all := by
  unfold DL.stKs Bd.all
  rw [h.la, h.lb]
theorem Bd.Sam.many (h : bd.Sam bd') (hok : bd.ok) (hok' : bd'.ok) : (tripsK bd).length = (tripsK bd').length := by
  have one : ∀ {b b' : Bd}, b.Sam b' → b.ok → b'.ok → (tripsK b).length ≤ (tripsK b').length := fun {b b'} h hok hok' => by
    refine (tripsK_rgs hok).conj (tripsK_rgs hok') id (leadS hok).cl (fun k hk => ?_) (fun k hk => ?_) fun k _ l _ e => e
    · rw [← h.stKs]; exact hk
    · obtain ⟨s, hs, rfl⟩ := stKs_at hok hk
      show tkK b' s.key = tkK b s.key
      rw [tkK_key, tkK_key, (h.tick hs).1]
  exact Nat.le_antisymm (one h hok hok') (one h.symm hok' hok)
theorem Bd.Sam.perm {x y : Str} {ra rb : List RowT} (h : (rb.map fun r => (r.1, r.2.1)).Nodup) (p : ra.Perm rb) : (⟨x, y, ra⟩ : Bd).Sam ⟨x, y, rb⟩ := ⟨rfl, rfl, fun i j _ _ => by
  have ha : (ra.map fun r => (r.1, r.2.1)).Nodup := (p.map _).nodup_iff.mpr h
  show lookR ra _ _ = lookR rb _ _
  generalize chr x i = u
  generalize chr y j = v
  unfold lookR
  cases e : rb.find? fun r => decide (r.1 = u ∧ r.2.1 = v) with
  | some r =>
    have hr := List.mem_of_find?_eq_some e
    have hp : r.1 = u ∧ r.2.1 = v := by have := List.find?_some e; simpa using this
    have := find_rowP ha (p.mem_iff.mpr hr)
    rw [hp.1, hp.2] at this
    rw [this]
  | none =>
    have : ra.find? (fun r => decide (r.1 = u ∧ r.2.1 = v)) = none := by
      rw [List.find?_eq_none] at e ⊢
      exact fun r hr => e r (p.mem_iff.mp hr)
    rw [this]⟩
/-! ## swapped: the pace, as many trips -/
theorem Bd.swap_trip (hok : bd.ok) {s : Sd} {n : Nat} (ht : bd.Trip s n) : bd.swap.Trip s.swap n :=
  ⟨ht.ok.swap, ht.pos, by rw [Bd.go_swap hok, ht.back], fun m hm em => ht.least m hm (by
    rw [Bd.go_swap hok] at em
    have : ∀ u v : Sd, u.swap = v.swap → u = v := fun u v e => by
      obtain ⟨i, j, f⟩ := u
      obtain ⟨i', j', f'⟩ := v
      simp only [Sd.swap, Sd.mk.injEq] at e
      obtain ⟨e1, e2, e3⟩ := e
      subst e1 e2
      cases f <;> cases f' <;> first | rfl | cases e3
    exact this _ _ em)⟩
theorem Bd.swap_pc (hok : bd.ok) : bd.swap.pcP = bd.pcQ ∧ bd.swap.pcQ = bd.pcP := by
  obtain ⟨s, n, ht⟩ := trip_pc hok
  obtain ⟨a1, a2, _⟩ := ht.pc hok
  obtain ⟨b1, b2, _⟩ := (Bd.swap_trip hok ht).pc hok.swap
  have e := Bd.F_swap hok s n
  unfold Bd.pcP Bd.pcQ
  rw [← a1, ← a2, ← b1, ← b2]
  constructor
  · show _ / bd.b.length = _
    congr 1; omega
  · show _ / bd.a.length = _
    congr 1; omega
def swK : List Key → List Key
  | [.inl i, .inl j, .inr x] => [.inl j, .inl i, .inr (owS x)]
  | k => k
theorem swK_key (s : Sd) : swK s.key = s.swap.key := by
  obtain ⟨i, j, f⟩ := s
  show [Sum.inl _, Sum.inl _, Sum.inr _] = _
  rw [owS_last]; rfl
theorem Bd.swap_many (hok : bd.ok) : (tripsK bd.swap).length = (tripsK bd).length := by
  have one : ∀ {b b' : Bd}, b.ok → b'.ok → (∀ s : Sd, s.ok b → s.swap.ok b') → (∀ s : Sd, s.ok b → b'.tick s.swap = (b.tick s).swap) → (tripsK b).length ≤ (tripsK b').length := fun {b b'} hb hb' ho ht => by
    refine (tripsK_rgs hb).conj (tripsK_rgs hb') swK (leadS hb).cl (fun k hk => ?_) (fun k hk => ?_) fun k hk l hl e => ?_
    · obtain ⟨s, hs, rfl⟩ := stKs_at hb hk
      rw [swK_key]; exact stKs_mem (ho s hs)
    · obtain ⟨s, hs, rfl⟩ := stKs_at hb hk
      rw [swK_key, tkK_key, tkK_key, swK_key, ht s hs]
    · obtain ⟨s, hs, rfl⟩ := stKs_at hb hk
      obtain ⟨u, hu, rfl⟩ := stKs_at hb hl
      rw [swK_key, swK_key] at e
      have e := Sd.key_inj e
      obtain ⟨i, j, f⟩ := s
      obtain ⟨i', j', f'⟩ := u
      simp only [Sd.swap, Sd.mk.injEq] at e
      obtain ⟨e1, e2, e3⟩ := e
      subst e1 e2
      cases f <;> cases f' <;> first | rfl | cases e3
  have sw2 : ∀ s : Sd, s.swap.swap = s := fun s => by
    obtain ⟨i, j, f⟩ := s
    show (⟨i, j, !!f⟩ : Sd) = _
    rw [Bool.not_not]
  refine Nat.le_antisymm (one hok.swap hok (fun s hs => ⟨hs.2, hs.1⟩) fun s hs => ?_) (one hok hok.swap (fun s hs => hs.swap) fun s hs => Bd.tick_swap hok s)
  have := Bd.tick_swap hok s.swap
  rw [sw2] at this
  rw [this, sw2]
end
end DL

set_option Elab.async false
set_option linter.all false
set_option maxRecDepth 100000
set_option maxHeartbeats 4000000
namespace K30
open PySem PySem.Spec L2 DL
open PyProof.Rows (envOfC)
def topS (i : Nat) : Stmt := PySem.Challenge.pw_roundfence_k30_turned_about.main.body.getD i (.Pass ⟨0, 0, 0, 0⟩)
abbrev s_NoRound_init : Stmt := inClass (topS 2) 0
theorem sc_NoRound_init : FnScope ["self", "what"] ["self", "what"] (defScope s_NoRound_init) := ⟨rfl, rfl, rfl, by decide +kernel, rfl, by decide +kernel, by decide +kernel⟩
abbrev s_NoRow_init : Stmt := inClass (topS 3) 0
theorem sc_NoRow_init : FnScope ["self", "what"] ["self", "what"] (defScope s_NoRow_init) := ⟨rfl, rfl, rfl, by decide +kernel, rfl, by decide +kernel, by decide +kernel⟩
abbrev s_NoPlace_init : Stmt := inClass (topS 4) 0
theorem sc_NoPlace_init : FnScope ["self", "what"] ["self", "what"] (defScope s_NoPlace_init) := ⟨rfl, rfl, rfl, by decide +kernel, rfl, by decide +kernel, by decide +kernel⟩
abbrev s_NoLast_init : Stmt := inClass (topS 5) 0
theorem sc_NoLast_init : FnScope ["self", "what"] ["self", "what"] (defScope s_NoLast_init) := ⟨rfl, rfl, rfl, by decide +kernel, rfl, by decide +kernel, by decide +kernel⟩
abbrev s_NoTicks_init : Stmt := inClass (topS 6) 0
theorem sc_NoTicks_init : FnScope ["self", "what"] ["self", "what"] (defScope s_NoTicks_init) := ⟨rfl, rfl, rfl, by decide +kernel, rfl, by decide +kernel, by decide +kernel⟩
abbrev s_words_of : Stmt := topS 12
theorem sc_words_of : FnScope ["rule", "found", "number", "one", "two", "word"] ["rule"] (defScope s_words_of) := ⟨rfl, rfl, rfl, by decide +kernel, rfl, by decide +kernel, by decide +kernel⟩
abbrev s_Board_init : Stmt := inClass (topS 13) 0
theorem sc_Board_init : FnScope ["self", "first", "second", "rule", "number", "letters"] ["self", "first", "second", "rule"] (defScope s_Board_init) := ⟨rfl, rfl, rfl, by decide +kernel, rfl, by decide +kernel, by decide +kernel⟩
abbrev s_Board_eq : Stmt := inClass (topS 13) 1
theorem sc_Board_eq : FnScope ["self", "other"] ["self", "other"] (defScope s_Board_eq) := ⟨rfl, rfl, rfl, by decide +kernel, rfl, by decide +kernel, by decide +kernel⟩
abbrev s_Board_first : Stmt := inClass (topS 13) 2
theorem sc_Board_first : FnScope ["self"] ["self"] (defScope s_Board_first) := ⟨rfl, rfl, rfl, by decide +kernel, rfl, by decide +kernel, by decide +kernel⟩
abbrev s_Board_second : Stmt := inClass (topS 13) 3
theorem sc_Board_second : FnScope ["self"] ["self"] (defScope s_Board_second) := ⟨rfl, rfl, rfl, by decide +kernel, rfl, by decide +kernel, by decide +kernel⟩
abbrev s_Board_rule : Stmt := inClass (topS 13) 4
theorem sc_Board_rule : FnScope ["self", "one", "two"] ["self"] (defScope s_Board_rule) := ⟨rfl, rfl, rfl, by decide +kernel, rfl, by decide +kernel, by decide +kernel⟩
abbrev s_Board_word : Stmt := inClass (topS 13) 5
theorem sc_Board_word : FnScope ["self", "i", "j"] ["self", "i", "j"] (defScope s_Board_word) := ⟨rfl, rfl, rfl, by decide +kernel, rfl, by decide +kernel, by decide +kernel⟩
abbrev s_Board_word_at : Stmt := inClass (topS 13) 6
theorem sc_Board_word_at : FnScope ["self", "i", "j", "one", "two"] ["self", "i", "j"] (defScope s_Board_word_at) := ⟨rfl, rfl, rfl, by decide +kernel, rfl, by decide +kernel, by decide +kernel⟩
abbrev s_Board_go : Stmt := inClass (topS 13) 7
theorem sc_Board_go : FnScope ["self", "standing", "ticks", "standings", "begun", "steps", "many", "rounds", "rest", "gone"] ["self", "standing", "ticks"] (defScope s_Board_go) := ⟨rfl, rfl, rfl, by decide +kernel, rfl, by decide +kernel, by decide +kernel⟩
abbrev s_need_place : Stmt := topS 14
theorem sc_need_place : FnScope ["board", "i", "j"] ["board", "i", "j"] (defScope s_need_place) := ⟨rfl, rfl, rfl, by decide +kernel, rfl, by decide +kernel, by decide +kernel⟩
abbrev s_need_standing : Stmt := topS 15
theorem sc_need_standing : FnScope ["board", "standing", "i", "j", "last"] ["board", "standing"] (defScope s_need_standing) := ⟨rfl, rfl, rfl, by decide +kernel, rfl, by decide +kernel, by decide +kernel⟩
abbrev s_after : Stmt := topS 16
theorem sc_after : FnScope ["board", "standing", "i", "j", "last", "word"] ["board", "standing"] (defScope s_after) := ⟨rfl, rfl, rfl, by decide +kernel, rfl, by decide +kernel, by decide +kernel⟩
abbrev s_road : Stmt := topS 17
theorem sc_road : FnScope ["board", "standing", "known", "here", "step"] ["board", "standing"] (defScope s_road) := ⟨rfl, rfl, rfl, by decide +kernel, rfl, by decide +kernel, by decide +kernel⟩
abbrev s_steps_on : Stmt := topS 18
theorem sc_steps_on : FnScope ["board", "standings", "found", "here"] ["board", "standings"] (defScope s_steps_on) := ⟨rfl, rfl, rfl, by decide +kernel, rfl, by decide +kernel, by decide +kernel⟩
abbrev s_turned : Stmt := topS 21
theorem sc_turned : FnScope ["board", "rows", "here", "there", "word"] ["board"] (defScope s_turned) := ⟨rfl, rfl, rfl, by decide +kernel, rfl, by decide +kernel, by decide +kernel⟩
abbrev s_from_least : Stmt := topS 23
theorem sc_from_least : FnScope ["ring", "at"] ["ring"] (defScope s_from_least) := ⟨rfl, rfl, rfl, by decide +kernel, rfl, by decide +kernel, by decide +kernel⟩
abbrev s_rings : Stmt := topS 24
theorem sc_rings : FnScope ["leads", "done", "found", "start", "path", "here"] ["leads"] (defScope s_rings) := ⟨rfl, rfl, rfl, by decide +kernel, rfl, by decide +kernel, by decide +kernel⟩
abbrev s_standings_led : Stmt := topS 26
theorem sc_standings_led : FnScope ["board", "places", "standings", "i", "j", "last", "standing"] ["board"] (defScope s_standings_led) := ⟨rfl, rfl, rfl, by decide +kernel, rfl, by decide +kernel, by decide +kernel⟩
abbrev s_trips : Stmt := topS 27
theorem sc_trips : FnScope ["board"] ["board"] (defScope s_trips) := ⟨rfl, rfl, rfl, by decide +kernel, rfl, by decide +kernel, by decide +kernel⟩
abbrev s_pace : Stmt := topS 28
theorem sc_pace : FnScope ["board", "trip", "steps"] ["board"] (defScope s_pace) := ⟨rfl, rfl, rfl, by decide +kernel, rfl, by decide +kernel, by decide +kernel⟩
abbrev s_law_bag : Stmt := topS 30
theorem sc_law_bag : FnScope ["script", "fold", "great", "cell"] ["script"] (defScope s_law_bag) := ⟨rfl, rfl, rfl, by decide +kernel, rfl, by decide +kernel, by decide +kernel⟩
abbrev s_law_draw : Stmt := topS 31
theorem sc_law_draw : FnScope ["bag", "many", "drawn", "turn", "mixed"] ["bag", "many"] (defScope s_law_draw) := ⟨rfl, rfl, rfl, by decide +kernel, rfl, by decide +kernel, by decide +kernel⟩
abbrev s_law_round : Stmt := topS 32
theorem sc_law_round : FnScope ["bag", "most", "kinds", "k"] ["bag", "most"] (defScope s_law_round) := ⟨rfl, rfl, rfl, by decide +kernel, rfl, by decide +kernel, by decide +kernel⟩
abbrev s_law_rule : Stmt := topS 33
theorem sc_law_rule : FnScope ["bag", "first", "second", "words", "found", "wide", "one", "other"] ["bag", "first", "second", "words"] (defScope s_law_rule) := ⟨rfl, rfl, rfl, by decide +kernel, rfl, by decide +kernel, by decide +kernel⟩
abbrev s_law_board : Stmt := topS 34
theorem sc_law_board : FnScope ["bag", "words", "most", "first", "second"] ["bag", "words"] (defScope s_law_board) := ⟨rfl, rfl, rfl, by decide +kernel, rfl, by decide +kernel, by decide +kernel⟩
abbrev s_law_table : Stmt := topS 35
theorem sc_law_table : FnScope ["first", "second", "rows", "known", "one", "other", "word"] ["first", "second", "rows"] (defScope s_law_table) := ⟨rfl, rfl, rfl, by decide +kernel, rfl, by decide +kernel, by decide +kernel⟩
abbrev s_law_tick : Stmt := topS 36
theorem sc_law_tick : FnScope ["table", "standing", "i", "j", "last", "word"] ["table", "standing"] (defScope s_law_tick) := ⟨rfl, rfl, rfl, by decide +kernel, rfl, by decide +kernel, by decide +kernel⟩
abbrev s_law_walk : Stmt := topS 37
theorem sc_law_walk : FnScope ["table", "standing", "met", "found"] ["table", "standing"] (defScope s_law_walk) := ⟨rfl, rfl, rfl, by decide +kernel, rfl, by decide +kernel, by decide +kernel⟩
abbrev s_law_all_trips : Stmt := topS 38
theorem sc_law_all_trips : FnScope ["table", "done", "found", "i", "j", "last", "path", "standing"] ["table"] (defScope s_law_all_trips) := ⟨rfl, rfl, rfl, by decide +kernel, rfl, by decide +kernel, by decide +kernel⟩
abbrev s_law_pace_of : Stmt := topS 39
theorem sc_law_pace_of : FnScope ["table", "trip", "steps", "one"] ["table", "trip"] (defScope s_law_pace_of) := ⟨rfl, rfl, rfl, by decide +kernel, rfl, by decide +kernel, by decide +kernel⟩
abbrev s_law_standing : Stmt := topS 40
theorem sc_law_standing : FnScope ["bag", "table"] ["bag", "table"] (defScope s_law_standing) := ⟨rfl, rfl, rfl, by decide +kernel, rfl, by decide +kernel, by decide +kernel⟩
abbrev s_law_exchanged : Stmt := topS 41
theorem sc_law_exchanged : FnScope ["standing"] ["standing"] (defScope s_law_exchanged) := ⟨rfl, rfl, rfl, by decide +kernel, rfl, by decide +kernel, by decide +kernel⟩
abbrev s_law : Stmt := topS 42
theorem sc_law : FnScope ["script", "bag", "turn", "first", "second", "rows", "plain", "table", "about", "words", "told", "standing", "ticks", "here", "there", "one", "two", "word"] ["script"] (defScope s_law) := ⟨rfl, rfl, rfl, by decide +kernel, rfl, by decide +kernel, by decide +kernel⟩
/-! ## steps -/
local macro_rules | `(tactic| walk_at "na") => `(tactic| first
  | exact NameAt.z | exact .s .z | exact .s (.s .z) | exact .s (.s (.s .z)) | exact .s (.s (.s (.s .z))) | exact .s (.s (.s (.s (.s .z)))) | exact .s (.s (.s (.s (.s (.s .z))))) | exact .s (.s (.s (.s (.s (.s (.s .z)))))) | exact .s (.s (.s (.s (.s (.s (.s (.s .z))))))) | exact .s (.s (.s (.s (.s (.s (.s (.s (.s .z)))))))) | exact .s (.s (.s (.s (.s (.s (.s (.s (.s (.s .z))))))))) | exact .s (.s (.s (.s (.s (.s (.s (.s (.s (.s (.s .z)))))))))) | exact .s (.s (.s (.s (.s (.s (.s (.s (.s (.s (.s (.s .z))))))))))) | exact .s (.s (.s (.s (.s (.s (.s (.s (.s (.s (.s (.s (.s .z)))))))))))) | exact .s (.s (.s (.s (.s (.s (.s (.s (.s (.s (.s (.s (.s (.s .z))))))))))))) | exact .s (.s (.s (.s (.s (.s (.s (.s (.s (.s (.s (.s (.s (.s (.s .z)))))))))))))) | exact .s (.s (.s (.s (.s (.s (.s (.s (.s (.s (.s (.s (.s (.s (.s (.s .z))))))))))))))) | exact .s (.s (.s (.s (.s (.s (.s (.s (.s (.s (.s (.s (.s (.s (.s (.s (.s .z)))))))))))))))) | exact .s (.s (.s (.s (.s (.s (.s (.s (.s (.s (.s (.s (.s (.s (.s (.s (.s (.s .z))))))))))))))))) | exact .s (.s (.s (.s (.s (.s (.s (.s (.s (.s (.s (.s (.s (.s (.s (.s (.s (.s (.s .z)))))))))))))))))) | exact .s (.s (.s (.s (.s (.s (.s (.s (.s (.s (.s (.s (.s (.s (.s (.s (.s (.s (.s (.s .z))))))))))))))))))) | exact .s (.s (.s (.s (.s (.s (.s (.s (.s (.s (.s (.s (.s (.s (.s (.s (.s (.s (.s (.s (.s .z)))))))))))))))))))))
local macro_rules | `(tactic| walk_at "nm") => `(tactic| first
  | refine ew_nm (by with_reducible assumption) (by with_reducible walk_at "na") (by rfl) ?_
  | refine ew_glk (by with_reducible assumption) ?_
  | ((with_reducible show EW _ _ (.Name "bool" _) _ _); refine en_t "bool" (by with_reducible assumption) (.tail _ (.tail _ (.tail _ (.tail _ (.tail _ (.head _)))))) ?_)
  | ((with_reducible show EW _ _ (.Name "int" _) _ _); refine en_t "int" (by with_reducible assumption) (.tail _ (.head _)) ?_)
  | ((with_reducible show EW _ _ (.Name "str" _) _ _); refine en_t "str" (by with_reducible assumption) (.head _) ?_)
  | ((with_reducible show EW _ _ (.Name "list" _) _ _); refine en_t "list" (by with_reducible assumption) (.tail _ (.tail _ (.head _))) ?_)
  | ((with_reducible show EW _ _ (.Name "tuple" _) _ _); refine en_t "tuple" (by with_reducible assumption) (.tail _ (.tail _ (.tail _ (.tail _ (.head _))))) ?_))
local macro_rules | `(tactic| walk_at "gn") => `(tactic| refine gw_nm (by with_reducible assumption) (by with_reducible walk_at "na") ?_)
local macro_rules | `(tactic| walk_at "b") => `(tactic| first
  | (with_reducible refine bv_add ?_)
  | (with_reducible refine bv_sub ?_)
  | (with_reducible refine bp_2_61 ?_) | (with_reducible refine bp_10_18 ?_) | (with_reducible refine bp_10_14 ?_) | (with_reducible refine bp_10_15 ?_) | (with_reducible refine bp_10_20 ?_) | (with_reducible refine bp_10_29 ?_) | (with_reducible refine bp_10_40 ?_) | (with_reducible refine bp_10_59 ?_)
  | ((with_reducible refine bv_mod ?a1 ?_); (case a1 => first | omega | decide))
  | ((with_reducible refine bv_fdivs ?a1 ?_); (case a1 => first | omega | decide))
  | ((with_reducible refine bv_mulR ?a1 ?_); (case a1 => omega))
  | ((with_reducible refine bv_mulL ?a1 ?_); (case a1 => omega))
  | ((with_reducible refine bv_addS ?a1 ?_); (case a1 => first | (with_reducible assumption) | omega))
  | (with_reducible refine bv_eqI ?_)
  | (with_reducible refine bv_neI ?_)
  | (with_reducible refine bv_eqS ?_)
  | (with_reducible refine bv_neS ?_)
  | (with_reducible refine bv_eqB ?_)
  | (with_reducible refine bv_neB ?_)
  | (with_reducible refine bv_lt ?_)
  | (with_reducible refine bv_le ?_)
  | (with_reducible refine bv_gt ?_)
  | (with_reducible refine bv_ge ?_)
  | (with_reducible refine bv_isN ?_)
  | (with_reducible refine bv_notN ?_))
local macro_rules | `(tactic| walk_at "cv") => `(tactic| first
  | ((with_reducible refine cv_max2 ?a1 ?_); (case a1 => rfl))
  | ((with_reducible refine cv_min2 ?a1 ?_); (case a1 => rfl))
  | (with_reducible refine cv_abs ?_)
  | (with_reducible refine cv_intB ?_))
local macro_rules | `(tactic| walk_at "call") => `(tactic| first
  | refine ew_cl (by with_reducible assumption) (by exact Room.mono (by assumption) (by first | decide | exact Nat.le_refl _)) ?_
  | ((with_reducible show EW _ _ (.Call (.Name "len" _) _ _ _) _ _); refine eb_b "len" (by with_reducible assumption) (.head _) ?_)
  | ((with_reducible show EW _ _ (.Call (.Name "max" _) _ _ _) _ _); refine eb_b "max" (by with_reducible assumption) (.tail _ (.head _)) ?_)
  | ((with_reducible show EW _ _ (.Call (.Name "min" _) _ _ _) _ _); refine eb_b "min" (by with_reducible assumption) (.tail _ (.tail _ (.head _))) ?_)
  | ((with_reducible show EW _ _ (.Call (.Name "abs" _) _ _ _) _ _); refine eb_b "abs" (by with_reducible assumption) (.tail _ (.tail _ (.tail _ (.head _)))) ?_)
  | ((with_reducible show EW _ _ (.Call (.Name "all" _) _ _ _) _ _); refine eb_b "all" (by with_reducible assumption) (.tail _ (.tail _ (.tail _ (.tail _ (.head _))))) ?_)
  | ((with_reducible show EW _ _ (.Call (.Name "isinstance" _) _ _ _) _ _); refine eb_b "isinstance" (by with_reducible assumption) (.tail _ (.tail _ (.tail _ (.tail _ (.tail _ (.head _)))))) ?_)
  | ((with_reducible show EW _ _ (.Call (.Name "sorted" _) _ _ _) _ _); refine eb_b "sorted" (by with_reducible assumption) (.tail _ (.tail _ (.tail _ (.tail _ (.tail _ (.tail _ (.head _))))))) ?_)
  | ((with_reducible show EW _ _ (.Call (.Name "divmod" _) _ _ _) _ _); refine eb_b "divmod" (by with_reducible assumption) (.tail _ (.tail _ (.tail _ (.tail _ (.tail _ (.tail _ (.tail _ (.head _)))))))) ?_)
  | ((with_reducible show EW _ _ (.Call (.Name "sum" _) _ _ _) _ _); refine eb_b "sum" (by with_reducible assumption) (.tail _ (.tail _ (.tail _ (.tail _ (.tail _ (.tail _ (.tail _ (.tail _ (.head _))))))))) ?_)
  | ((with_reducible show EW _ _ (.Call (.Name "str" _) _ _ _) _ _); refine eb_t "str" (by with_reducible assumption) (.head _) ?_)
  | ((with_reducible show EW _ _ (.Call (.Name "int" _) _ _ _) _ _); refine eb_t "int" (by with_reducible assumption) (.tail _ (.head _)) ?_)
  | ((with_reducible show EW _ _ (.Call (.Name "list" _) _ _ _) _ _); refine eb_t "list" (by with_reducible assumption) (.tail _ (.tail _ (.head _))) ?_)
  | ((with_reducible show EW _ _ (.Call (.Name "dict" _) _ _ _) _ _); refine eb_t "dict" (by with_reducible assumption) (.tail _ (.tail _ (.tail _ (.head _)))) ?_)
  | ((with_reducible show EW _ _ (.Call (.Name "tuple" _) _ _ _) _ _); refine eb_t "tuple" (by with_reducible assumption) (.tail _ (.tail _ (.tail _ (.tail _ (.head _))))) ?_))
local macro_rules | `(tactic| walk_at "d") => `(tactic| first
  | ((with_reducible show EW _ _ (.Name _ _) _ _); walk_at "nm")
  | (with_reducible refine ew_int ?_)
  | (with_reducible refine ew_str ?_)
  | (with_reducible refine ew_bl ?_)
  | (with_reducible refine ew_non ?_)
  | (with_reducible refine ew_bin ?_)
  | ((with_reducible show EW _ _ (.Compare _ [_] [_] _) _ _); refine ew_cmp ?_ (by first | exact nomark _ | rfl))
  | ((with_reducible show TW _ _ (.Compare _ [_] [_] _) _ _); refine tw_cmp ?_ (by first | exact nomark _ | rfl))
  | ((with_reducible show EW _ _ (.Call (.Name _ _) (_ :: _) [] _) _ _); walk_at "call")
  | ((with_reducible show BV _ _ _ _ _ _); walk_at "b")
  | ((with_reducible show CV _ _ _ _ _); walk_at "cv")
  | (with_reducible refine aw_nil ?_)
  | ((with_reducible show AW _ _ (_ :: _) _ _); refine aw_cons ?_)
  | (with_reducible refine tw_not ?_)
  | (with_reducible refine ew_tup ?_)
  | ((with_reducible show SW _ _ _ _ _); refine sw_cons ?_)
  | ((with_reducible show S1 _ _ (.Assign [.Name _ _] _ _) _ _); refine s_st (by with_reducible assumption) (by with_reducible walk_at "na") ?_)
  | ((with_reducible show S1 _ _ (.Return (some _) _) _ _); refine s_ret ?_)
  | ((with_reducible show S1 _ _ (.Expr _ _) _ _); refine s_expr ?_)
  | (with_reducible refine ⟨_, rfl, ?_⟩))
local macro_rules | `(tactic| walk_at "sh") => `(tactic| first
  | exact Shs.nil | exact Shs.cons .nil | exact Shs.cons (.cons .nil) | exact Shs.cons (.cons (.cons .nil)) | exact Shs.cons (.cons (.cons (.cons .nil))) | exact Shs.cons (.cons (.cons (.cons (.cons .nil)))))
local macro_rules | `(tactic| walk_at "xv") => `(tactic| first
  | (with_reducible refine xv_t0 ?_) | (with_reducible refine xv_t1 ?_) | (with_reducible refine xv_t2 ?_) | (with_reducible refine xv_l0 ?_) | (with_reducible refine xv_l1 ?_))
local macro_rules | `(tactic| walk_at "sv") => `(tactic| first
  | (with_reducible refine sv_tup ?_) | (with_reducible refine sv_lstK ?_) | (with_reducible refine sv_lst (.sh _) ?_)
  | ((with_reducible refine sv_str ?a1 ?_); (case a1 => first | omega | decide)))
local macro_rules | `(tactic| walk_at "gt") => `(tactic| first
  | ((with_reducible show GW _ (.Name _ _) _ _ _ _); walk_at "gn")
  | ((with_reducible show GW _ (.Tuple _ _ _) (.sh (.tup _)) _ _ _); refine gw_tup (.sh _) ?_)
  | ((with_reducible show GWs _ (_ :: _) _ _ _ _); refine gws_cons ?_)
  | ((with_reducible show GWs _ [] _ _ _ _); refine gws_nil ?_))
local macro_rules | `(tactic| walk_at "len") => `(tactic| first
  | ((with_reducible refine cv_lenS ?a1 ?_); (case a1 => omega))
  | (with_reducible refine cv_len (.lst (.sh _)) ?_)
  | (with_reducible refine cv_len (.tup (.sh _)) ?_)
  | (with_reducible refine cv_lenT (.sh _) ?_)
  | (refine cv_len (.lst (.lst rfl)) ?_)
  | (refine cv_lenT (.dT rfl) ?_))
local macro_rules | `(tactic| walk_at "me") => `(tactic| first
  | ((with_reducible show EW _ _ (.Call (.Attribute _ "append" _) [_] [] _) _ _); refine ew_mL PySem.F.slot_list_append PySem.F.type_list_append ?_)
  | ((with_reducible show EW _ _ (.Call (.Attribute _ "get" _) [_, _] [] _) _ _); refine ew_get (by assumption) ?_)
  | ((with_reducible show EW _ _ (.Call (.Attribute _ _ _) (_ :: _) [] _) _ _); refine ew_meth (by with_reducible assumption) (by exact Room.mono (by assumption) (by first | decide | exact Nat.le_refl _)) ?_)
  | ((with_reducible show EW _ _ (.Call (.Attribute _ _ _) [] [] _) _ _); refine ew_meth0 (by with_reducible assumption) (by exact Room.mono (by assumption) (by first | decide | exact Nat.le_refl _)) ?_)
  | ((with_reducible show ∃ fs, InsV _ (.sh _) _ fs ∧ _ ∧ _); refine ⟨_, .sh, by rfl, ?_⟩))
local macro_rules | `(tactic| walk_at "e0") => `(tactic| first
  | ((with_reducible show EW _ _ (.Name _ _) _ _); walk_at "nm")
  | (with_reducible refine ew_int ?_)
  | (with_reducible refine ew_str ?_)
  | (with_reducible refine ew_bl ?_)
  | (with_reducible refine ew_non ?_)
  | (with_reducible refine ew_bin ?_)
  | ((with_reducible show EW _ _ (.Compare _ [_] [_] _) _ _); refine ew_cmp ?_ (by first | exact nomark _ | rfl))
  | ((with_reducible show TW _ _ (.Compare _ [_] [_] _) _ _); refine tw_cmp ?_ (by first | exact nomark _ | rfl))
  | ((with_reducible show TW _ _ (.Compare _ [_, _] [_, _] _) _ _); refine tw_chain ?_)
  | (with_reducible refine ew_if ?_)
  | ((with_reducible show EW _ _ (.BoolOp .And (_ :: _ :: _) _) _ _); refine ew_and ?_)
  | ((with_reducible show EW _ _ (.BoolOp .Or (_ :: _ :: _) _) _ _); refine ew_or ?_)
  | ((with_reducible show EW _ _ (.BoolOp _ [_] _) _ _); refine ew_one ?_)
  | ((with_reducible show CV _ (.type "tuple") [.sh (.lst _)] _ _); refine cv_tuple (.sh _) ?_)
  | ((with_reducible show EW _ _ (.Subscript _ (.Slice none none (some _) _) _) _ _); refine ew_revL ?_)
  | ((with_reducible show EW _ _ (.Subscript _ (.Slice _ _ _ _) _) _ _); refine ew_slc ?_)
  | ((with_reducible show SV _ _ _ _ _ _); walk_at "sv")
  | ((with_reducible show IsDi _ (.sh (.dT _)) ∧ _); refine ⟨.t (.sh _), ?_⟩)
  | ((with_reducible show IsDi _ (.sh (.dK _)) ∧ _); refine ⟨.k (.sh _), ?_⟩)
  | ((with_reducible show GetD _ _ (.sh (.dT _)) (.sh (.tup _)) (.sh _)); refine .t (.sh _) rfl ?_)
  | (with_reducible refine dpw_nil ?_)
  | ((with_reducible show DPW _ _ (_ :: _) _ _ _); refine dpw_cons ?_)
  | ((with_reducible show EW _ _ (.Subscript _ _ _) _ _); refine ew_sub ?_)
  | ((with_reducible show EW _ _ (.UnaryOp .USub _ _) _ _); refine ew_un ?_)
  | (with_reducible refine uv_neg ?_)
  | ((with_reducible show EW _ _ (.Call (.Name _ _) (_ :: _) [] _) _ _); walk_at "call")
  | (with_reducible refine ow_none ?_)
  | (with_reducible refine ow_some ?_)
  | ((with_reducible show XV _ _ _ _ _); walk_at "xv")
  | ((with_reducible show BV _ _ _ _ _ _); walk_at "b")
  | ((with_reducible show CV _ (.builtin "len") _ _ _); walk_at "len")
  | ((with_reducible show CV _ _ _ _ _); walk_at "cv")
  | (with_reducible refine aw_nil ?_)
  | ((with_reducible show AW _ _ (_ :: _) _ _); refine aw_cons ?_)
  | (with_reducible refine tw_not ?_)
  | ((with_reducible show TW _ _ (.BoolOp _ _ _) _ _); refine tw_tb ?_)
  | ((with_reducible show TB _ _ (.BoolOp .Or (_ :: _ :: _) _) _ _); refine tb_or ?_)
  | ((with_reducible show TB _ _ (.BoolOp .And (_ :: _ :: _) _) _ _); refine tb_and ?_)
  | ((with_reducible show TB _ _ (.BoolOp .Or [_] _) _ _); refine tb_or1 ?_)
  | ((with_reducible show TB _ _ (.BoolOp .And [_] _) _ _); refine tb_and1 ?_)
  | ((with_reducible show TW _ _ (.Call _ _ _ _) _ _); refine tw_val ?_)
  | (with_reducible refine ew_tup ?_)
  | ((with_reducible show S1 _ _ (.Assign [.Name _ _] _ _) _ _); refine s_st (by with_reducible assumption) (by with_reducible walk_at "na") ?_)
  | ((with_reducible show S1 _ _ (.Assign [.Tuple _ _ _] _ _) _ _); refine s_tup ?_)
  | ((with_reducible show S1 _ _ (.Return (some _) _) _ _); refine s_ret ?_)
  | ((with_reducible show S1 _ _ (.Expr _ _) _ _); refine s_expr ?_)
  | ((with_reducible show S1 _ _ (.If _ _ _ _) _ _); refine s_if ?_)
  | ((with_reducible show S1 _ _ (.AugAssign (.Name _ _) _ _ _) _ _); refine s_ag (by with_reducible assumption) (by with_reducible walk_at "na") (by rfl) ?_)
  | walk_at "gt"
  | walk_at "me"
  | ((with_reducible show ∃ ds, Shs _ _ ds ∧ _ ∧ _); refine ⟨_, by with_reducible walk_at "sh", by simp, ?_⟩)
  | (with_reducible refine ⟨_, rfl, ?_⟩))
local macro_rules | `(tactic| walk_at "e1") => `(tactic| first | walk_at "e0" | ((with_reducible show SW _ _ _ _ _); refine sw_cons ?_))
local macro_rules | `(tactic| walk_at "e") => `(tactic| repeat walk_at "e1")
local macro_rules | `(tactic| walk_at "w") => `(tactic| repeat walk_at "e0")

-- needs:
/-! ## the bag -/
section
variable {P : Program} {w : World} {K : PySem.W.Frag} {mg : Str → Option Value} {base : Heap}
def ctBag : Ct := fun as rs Q => ∃ ns : List Int, as = [.sh (.lstK (ns.map Da.int))] ∧ rs = [] ∧ ns.length ≤ 63 ∧ Q (.rf 1) [.off, .tray 3 0]
theorem ctBag_mono : Mono ctBag := fun as rs P Q k ⟨ns, a, b, c, q⟩ => ⟨ns, a, b, c, k _ _ q⟩
theorem ok_bag {f : Addr} {fd : FuncData} (F : Fun K "_law_bag" "_law_bag" s_law_bag f fd) (zabs : mg "abs" = none) : FnOk P w K mg base CX0 1 f fd ["script"] (cSp K ctBag) := by
  have hnd := sc_law_bag.nd
  have hsc := sc_law_bag
  refine fnD F sc_law_bag (fun as rs Q h => ?_) fun cdv A outer s H E as rs Q hr h => ?_
  · obtain ⟨ns, rfl, _⟩ := h; rfl
  · obtain ⟨ns, rfl, rfl, hn, q⟩ := h
    refine sw_cons (s_par 1 2 ?_ hnd)
    walk_at "w"
    refine ew_lstM ?_
    walk_at "w"
    refine ⟨_, _, rfl, ?_⟩
    refine sw_cons ?_
    refine s_for (fun k sl rs => ∃ (fo : Int) (gs : List Int) (c : Option Rv), sl = [some (.sh (.lstK (ns.map Da.int))), some (.sh (.int fo)), some (.rf 0), c] ∧ rs = [.lst (gs.map Da.int)] ∧ gs.length ≤ k ∧ 0 ≤ fo ∧ fo < 2 ^ 61) ?_
    refine iw_listK (ew_name 0 rfl ⟨_, rfl, ⟨_, [], _, rfl, rfl, Nat.le_refl _, by decide, by decide⟩, ?_, ?_⟩)
    · rintro k d sl rs hd ⟨fo, gs, c, rfl, rfl, hg, h1, h2⟩
      rw [List.getElem?_map] at hd
      obtain ⟨v, hv, rfl⟩ := Option.map_eq_some_iff.mp hd
      have hk : k < 63 := by have := (List.getElem?_eq_some_iff.mp hv).1; omega
      walk_at "e"
      refine ⟨fun hb => ?_, fun hb => ?_⟩
      · walk_at "e"
        refine ⟨.vw (.lst rfl), ?_⟩
        walk_at "e"
        refine mv_append rfl (by rw [List.length_map]; omega) ?_
        refine sw_nil (sw_nil ⟨_, gs ++ [_], _, rfl, by rw [List.map_append]; rfl, by rw [List.length_append, List.length_singleton]; omega, ?_, ?_⟩)
        · exact Int.emod_nonneg _ (by decide)
        · exact Int.lt_trans (Int.emod_lt_of_pos _ (by decide)) (by decide)
      · refine sw_nil (sw_nil ⟨_, gs, _, rfl, rfl, by omega, ?_, ?_⟩)
        · exact Int.emod_nonneg _ (by decide)
        · exact Int.lt_trans (Int.emod_lt_of_pos _ (by decide)) (by decide)
    · rintro sl rs ⟨fo, gs, c, rfl, rfl, hg, h1, h2⟩
      rw [List.length_map] at hg
      refine sw_cons (s_ret (ew_disp ?_))
      walk_at "e"
      refine ⟨bagK_nodup, .ref ?_⟩
      exact trim_gh (close3 (k := 1) (m := 0) (bd := 0) rfl rfl (by omega) h1 h2 (by decide) (by decide)) 2 q
theorem ok_bdraw {f : Addr} {fd : FuncData} (F : Fun K "_law_draw" "_law_draw" s_law_draw f fd) (zl : mg "len" = none) : FnOk P w K mg base CX0 1 f fd ["bag", "many"] (cSp K ctBDraw) := by
  have hnd := sc_law_draw.nd
  have hsc := sc_law_draw
  refine fnD F sc_law_draw (fun as rs Q h => ?_) fun cdv A outer s H E as rs Q hr h => ?_
  · obtain ⟨_, n, rfl, _, _, ⟨m, rfl, _, _⟩, _⟩ := h; rfl
  · have hu := hr.units
    have hu' : Un (cxOf CX0 P w K mg base ["bag", "many", "drawn", "turn", "mixed"] "_law_draw" (defScope s_law_draw) f cdv A outer s H E).nox := hu
    obtain ⟨_, n, rfl, rfl, hn, ⟨m, rfl, hm1, hm2⟩, q⟩ := h
    have q : ∀ r : Int, 0 ≤ r → r < m → Q (.sh (.int r)) [.tray 3 (n + 1)] := fun r a b => q _ ⟨m, r, rfl, rfl, a, b⟩
    refine sw_open3 (k := 0) rfl fun gs n0 fo u hg hf1 hf2 hu1 hu2 => ?_
    show SW _ _ _ [.dKR (bagK 1 n0 u fo), .lst (gs.map Da.int)] _
    refine sw_mid (fun sl rs => ∃ (gs : List Int) (n0 : Int), gs.length ≤ 63 ∧ sl = [some (.rf 0), some (.sh (.int m)), none, none, none] ∧ rs = [.dKR (bagK 1 n0 u fo), .lst (gs.map Da.int)]) ?_ ?_
    · refine s_if (tw_tb (tb_and ?_))
      walk_at "w"
      refine xv_left hu' rfl ?_
      walk_at "w"
      refine ⟨fun _ => ⟨fun z => (nomatch z), fun _ => sw_nil ⟨gs, n0, hg, rfl, rfl⟩⟩, fun _ => ?_⟩
      walk_at "w"
      refine xv_great hu' rfl ?_
      walk_at "w"
      refine ⟨fun hb => ?_, fun _ => sw_nil ⟨gs, n0, hg, rfl, rfl⟩⟩
      cases gs with
      | nil => exfalso; simp at hb
      | cons g0 gs =>
        refine sw_cons (s_dputR hu' ?_)
        refine ew_mL PySem.F.slot_list_pop PySem.F.type_list_pop ?_
        walk_at "w"
        refine xv_great hu' rfl ?_
        refine ⟨.vw (.lst rfl), ?_⟩
        walk_at "w"
        refine mv_popAt (i := 0) rfl rfl (by decide) ?_
        walk_at "w"
        refine ⟨_, _, _, _, rfl, rfl, (show 4 < 100000 by decide), rfl, rfl, ?_⟩
        rw [put_left]
        exact sw_nil ⟨gs, g0, by simp at hg; omega, rfl, rfl⟩
    · rintro sl rs ⟨gs, n0, hg, rfl, rfl⟩
      refine sw_cons ?_
      walk_at "w"
      refine xv_left hu' rfl ?_
      walk_at "w"
      refine ⟨fun hb => ?_, fun hb => sw_nil ?_⟩
      · refine sw_cons ?_
        walk_at "w"
        refine xv_left hu' rfl ?_
        walk_at "w"
        refine sw_cons (s_dputR hu' ?_)
        walk_at "w"
        refine xv_left hu' rfl ?_
        walk_at "w"
        refine bv_fdiv (divW hm1 hm2) ?_
        walk_at "w"
        refine ⟨_, _, _, _, rfl, rfl, (show 4 < 100000 by decide), rfl, rfl, ?_⟩
        rw [put_left]
        refine sw_cons ?_
        walk_at "w"
        exact trim_gh (close3 (k := 0) (m := 1) (bd := n + 1) rfl rfl hg hf1 hf2 hu1 (by omega)) 1 (q _ (Int.emod_nonneg _ (by omega)) (Int.emod_lt_of_pos _ (by omega)))
      · refine sw_cons (s_daugR hu' ?_)
        walk_at "w"
        refine ⟨_, _, _, _, _, rfl, rfl, (show 4 < 100000 by decide), rfl, rfl, bag_turn, ?_⟩
        walk_at "w"
        refine bv_iaddI ?_
        refine ⟨rfl, ?_⟩
        rw [put_turn]
        refine sw_cons ?_
        walk_at "w"
        refine xv_turn hu' rfl ?_
        refine sw_cons ?_
        walk_at "w"
        refine xv_fold hu' rfl ?_
        walk_at "w"
        refine bv_powV (n := 2) (by omega) (by decide) ?_
        walk_at "w"
        generalize ((fo + 17 * (u + 1)) * (u + 1 + 29) ^ 2 + 7919 * (u + 1)) = z
        refine sw_cons ?_
        walk_at "w"
        have hz1 := Int.emod_nonneg z (show (2305843009213693951 : Int) ≠ 0 by decide)
        have hz2 := Int.emod_lt_of_pos z (show (0 : Int) < 2305843009213693951 by decide)
        generalize z % 2305843009213693951 = y at hz1 hz2 ⊢
        refine bv_powV (n := 3) (by omega) (by decide) ?_
        walk_at "w"
        exact trim_gh (close3 (k := 0) (m := 1) (bd := n + 1) rfl rfl hg hf1 hf2 (show (0 : Int) ≤ u + 1 by omega) (by omega)) 1 (q _ (Int.emod_nonneg _ (by omega)) (Int.emod_lt_of_pos _ (by omega)))
end

-- needs: BAG
/-! ## boards that the law draws, by a bag -/
section
set_option pp.maxSteps 600
variable {P : Program} {w : World} {K : PySem.W.Frag} {mg : Str → Option Value} {base : Heap} {C : Addr}
abbrev ctBRound : Ct := ctT 3 42 (fun ds => ∃ m : Nat, ds = [.int m] ∧ 1 ≤ m ∧ m ≤ 40) (fun _ d => ∃ x : Str, d = .str x ∧ 1 ≤ x.length ∧ x.length ≤ 40 ∧ lett x)
theorem ok_bround {f : Addr} {fd : FuncData} (F : Fun K "_law_round" "_law_round" s_law_round f fd) (D : FnC P w K mg base "_law_draw" ["bag", "many"] 1 ctBDraw) (zr : mg "range" = none) : FnOk P w K mg base CX0 2 f fd ["bag", "most"] (cSp K ctBRound) := by
  have hsc := sc_law_round
  have hnd := sc_law_round.nd
  refine fnD F sc_law_round (fun as rs Q h => ?_) fun cdv A outer s H E as rs Q hr h => ?_
  · obtain ⟨_, n, rfl, _, _, ⟨m, rfl, _⟩, _⟩ := h; rfl
  · obtain ⟨_, n, rfl, rfl, hn, ⟨m, rfl, hm1, hm2⟩, q⟩ := h
    walk_at "e"
    refine kc_bdraw rfl (by omega) (by omega) (by omega) fun r0 h1 h2 => ?_
    walk_at "e"
    refine ew_mS PySem.F.slot_str_join PySem.F.type_str_join ?_
    walk_at "e"
    obtain ⟨r0, rfl⟩ := Int.eq_ofNat_of_zero_le h1
    refine ew_lc (fun k rs => ∃ cs : List Nat, rs = [.tray 3 (n + 2 + k), .lst ((cs.map fun c => (⟨#[c]⟩ : Str)).map Da.str)] ∧ cs.length = k ∧ k ≤ 40 ∧ ∀ c ∈ cs, c ∈ ("abcdef" : Str).cps.toList) [("k", 3)] (fun s H C cl fp => lcg_name 3 hnd) ?_ hnd
    refine iw_range1 zr ?_
    walk_at "e"
    refine kc_bdraw rfl (by omega) (by omega) (by omega) fun r1 h3 h4 => ?_
    walk_at "e"
    refine ⟨by omega, by omega, ⟨[], rfl, rfl, by omega, fun _ h => nomatch h⟩, ?_, ?_⟩
    · rintro k d rs hd ⟨cs, rfl, hl, _, hc⟩
      obtain ⟨hk, rfl⟩ := rangeD_get hd
      have hk3 : k < 40 := by omega
      refine ⟨_, rfl, fun s H C' cl fp => pws_nil ⟨fun z => (nomatch z), fun _ s H C' cl fp => ?_⟩⟩
      show EW _ _ _ _ _
      walk_at "e"
      refine kc_bdraw rfl (by omega) (by omega) (by omega) fun r3 h7 h8 => ?_
      obtain ⟨c, hc2, hcm⟩ := atI_ex (l := ("abcdef" : Str).cps.toList) h7 (by show r3 < 6; omega)
      refine xv_str (by decide) hc2 ?_
      refine ⟨_, _, rfl, rfl, by rw [List.length_map, List.length_map]; omega, cs ++ [c], ?_, by rw [List.length_append, hl]; rfl, by omega, fun x hx => ?_⟩
      · rw [List.map_append, List.map_append]; rfl
      · rcases List.mem_append.mp hx with h | h
        · exact hc x h
        · have : x = c := by simpa using h
          rw [this]; exact hcm
    · rintro rs ⟨cs, rfl, hl, hk, hc⟩
      have hl2 : (rangeD 0 (1 + r1).toNat).length = (1 + r1).toNat := rangeD_len
      rw [hl2] at hl hk ⊢
      have h40 : cs.length ≤ 40 := by omega
      have hsum : ((cs.map fun c => (⟨#[c]⟩ : Str)).map (·.length)).sum + (cs.map fun c => (⟨#[c]⟩ : Str)).length * ("" : Str).length ≤ 1000000 := by
        rw [List.map_map, show ("" : Str).length = 0 from rfl, Nat.mul_zero, Nat.add_zero]
        have : ∀ l : List Nat, (l.map ((fun x : Str => x.length) ∘ fun c => (⟨#[c]⟩ : Str))).sum = l.length := fun l => by
          induction l with
          | nil => rfl
          | cons a l ih => rw [List.map_cons, List.sum_cons, ih, List.length_cons, Nat.add_comm]; rfl
        rw [this]; omega
      refine mv_join (.lst rfl) hsum ?_
      have hj := join_signs cs
      generalize Txt.join "" (cs.map fun c => (⟨#[c]⟩ : Str)) = z at hj ⊢
      have hz : z.length = cs.length := by rw [← hj]; exact (Array.length_toList).symm
      exact trim_gh (gh_tray3 (k := 0) rfl (show n + 2 + (1 + r1).toNat ≤ n + 42 by omega)) 1 (q _ ⟨z, rfl, by omega, by omega, fun c hcm => lett_six c (hc c (by rw [← hj]; exact hcm))⟩)
theorem tw_some {X : Cx} {sl : Sl} {e : Expr} {rs : List Res} {Q : TQ} (h : TW X sl e rs fun _ rs' => rs' = rs) (q : ∀ b, Q b rs) : TW X sl e rs Q := ⟨fun T σ H a b => (h.go T σ H a b).mono fun v H' ⟨T', rs', l, R', e2⟩ => ⟨T', rs', l, R', by rw [e2]; exact q _⟩⟩
theorem rows_snoc {i j : Nat} {rows : List RowT} (h : RowsTo i j rows) (hi : i < 6) (hj : j < 6) {w : Str} (hw : isW w) : RowsTo i (j + 1) (rows ++ [(sgn i, sgn j, w)]) := by
  have := h.ins hi hj rows.length hw
  rw [show insAt rows rows.length (sgn i, sgn j, w) = rows ++ [(sgn i, sgn j, w)] by unfold insAt; rw [List.take_length, List.drop_length, List.append_nil]] at this
  exact this
abbrev wordsD : Da := .tup [.str "first", .str "second", .str "other"]
abbrev ctBRule : Ct := ctT 3 110 (fun ds => ∃ x y : Str, ds = [.str x, .str y, wordsD]) (fun _ d => ∃ rows, d = rowsD rows ∧ RowsTo 6 0 rows)
theorem ok_brule {f : Addr} {fd : FuncData} (F : Fun K "_law_rule" "_law_rule" s_law_rule f fd) (D : FnC P w K mg base "_law_draw" ["bag", "many"] 1 ctBDraw) (zl : mg "len" = none) : FnOk P w K mg base CX0 2 f fd ["bag", "first", "second", "words"] (cSp K ctBRule) := by
  have hsc := sc_law_rule
  have hnd := sc_law_rule.nd
  refine fnD F sc_law_rule (fun as rs Q h => ?_) fun cdv A outer s H E as rs Q hr h => ?_
  · obtain ⟨_, n, rfl, _, _, ⟨x, y, rfl⟩, _⟩ := h; rfl
  · obtain ⟨_, n, rfl, rfl, hn, ⟨x, y, rfl⟩, q⟩ := h
    refine sw_cons ?_
    walk_at "w"
    refine ew_lstM ?_
    walk_at "w"
    refine sw_cons ?_
    walk_at "w"
    refine kc_bdraw rfl (by omega) (by omega) (by omega) fun r0 h1 h2 => ?_
    walk_at "w"
    generalize decide (r0 = 0) = wide
    refine sw_cons (s_for (fun i sl rs => ∃ (rows : List RowT) (a b : Option Rv), sl = [some (.rf 0), some (.sh (.str x)), some (.sh (.str y)), some (.sh wordsD), some (.rf 1), some (.sh (.bl wide)), a, b] ∧ rs = [.tray 3 (n + 1 + 12 * i), .lst (rows.map rowD)] ∧ RowsTo i 0 rows) ?_)
    refine iw_str' (x := "abcdef") ?_
    walk_at "w"
    refine ⟨rfl, ⟨[], _, _, rfl, rfl, .nil⟩, ?_, ?_⟩
    · rintro i d sl rs hd ⟨rows, a, b, rfl, rfl, hrows⟩
      obtain ⟨hi, rfl⟩ := signs_six hd
      walk_at "gn"
      refine sw_cons (s_for (fun j sl rs => ∃ (rows : List RowT) (b : Option Rv), sl = [some (.rf 0), some (.sh (.str x)), some (.sh (.str y)), some (.sh wordsD), some (.rf 1), some (.sh (.bl wide)), some (.sh (.str (sgn i))), b] ∧ rs = [.tray 3 (n + 1 + 12 * i + 2 * j), .lst (rows.map rowD)] ∧ RowsTo i j rows) ?_)
      refine iw_str' (x := "abcdef") ?_
      walk_at "w"
      refine ⟨rfl, ⟨rows, _, rfl, rfl, hrows⟩, ?_, ?_⟩
      · rintro j d sl rs hd ⟨rows, b, rfl, rfl, hrows⟩
        obtain ⟨hj, rfl⟩ := signs_six hd
        walk_at "gn"
        have hrl := hrows.len
        have skip : ∀ {m}, m ≤ n + 1 + 12 * i + 2 * (j + 1) → Gh K [.tray 3 m, .lst (rows.map rowD)] [.tray 3 (n + 1 + 12 * i + 2 * (j + 1)), .lst (rows.map rowD)] := fun h => gh_tray3 (k := 0) rfl h
        refine sw_cons (s_if (tw_tb (tb_and (tw_some (tw_tb (tb_or ?_)) fun b => ⟨fun _ => ⟨fun z => (nomatch z), fun _ => ?_⟩, fun _ => tb_and1 ?_⟩))))
        · refine tw_val ?_
          walk_at "w"
          refine ⟨fun _ => rfl, fun _ => tb_or1 (tw_tb (tb_and ?_))⟩
          walk_at "w"
          refine bv_inC ?_
          walk_at "w"
          refine ⟨fun _ => rfl, fun _ => ?_⟩
          walk_at "w"
          refine bv_inC ?_
          exact ⟨_, rfl, rfl⟩
        · exact sw_gh (skip (by omega)) (sw_nil (sw_nil ⟨rows, _, rfl, rfl, hrows.skip⟩))
        · walk_at "w"
          refine kc_bdraw rfl (by omega) (by omega) (by omega) fun r1 h3 h4 => ?_
          walk_at "w"
          refine ⟨fun _ => ?_, fun _ => sw_gh (skip (by omega)) (sw_nil (sw_nil ⟨rows, _, rfl, rfl, hrows.skip⟩))⟩
          walk_at "e"
          refine ⟨.vw (.lst rfl), ?_⟩
          walk_at "e"
          refine kc_bdraw rfl (by simp) (by simp) (by omega) fun r2 h5 h6 => ?_
          obtain ⟨dm, hdm, hmm⟩ := pickI (ds := [Da.str "first", .str "second", .str "other"]) h5 (by simpa using h6)
          obtain ⟨v, rfl, hv⟩ : ∃ y, dm = .str y ∧ isW y := by
            simp only [List.mem_cons, List.not_mem_nil, or_false] at hmm
            rcases hmm with e | e | e <;> subst e
            · exact ⟨_, rfl, .inl rfl⟩
            · exact ⟨_, rfl, .inr (.inl rfl)⟩
            · exact ⟨_, rfl, .inr (.inr rfl)⟩
          refine xv_seq (.tup (.sh _)) hdm ?_
          walk_at "e"
          refine mv_append rfl (by rw [List.length_map]; omega) ?_
          refine sw_nil (sw_nil ⟨rows ++ [(sgn i, sgn j, v)], _, rfl, ?_, rows_snoc hrows hi hj hv⟩)
          rw [List.map_append]; rfl
      · rintro sl rs ⟨rows, b, rfl, rfl, hrows⟩
        exact sw_nil ⟨rows, _, _, rfl, by rw [show n + 1 + 12 * (i + 1) = n + 1 + 12 * i + 2 * 6 by omega]; rfl, hrows.next⟩
    · rintro sl rs ⟨rows, a, b, rfl, rfl, hrows⟩
      walk_at "e"
      exact trim_lstG (k := 1) (gh_tray3 (k := 0) rfl (show n + 1 + 12 * 6 ≤ n + 110 by omega)) 1 rfl (q _ ⟨rows, rfl, hrows⟩)
abbrev ctBBoard : Ct := ctT 3 220 (fun ds => ds = [wordsD]) (fun _ d => ∃ x y rows, d = .tup [.str x, .str y, rowsD rows] ∧ 1 ≤ x.length ∧ x.length ≤ 40 ∧ lett x ∧ 1 ≤ y.length ∧ y.length ≤ 40 ∧ lett y ∧ RowsTo 6 0 rows)
theorem ok_bboard {f : Addr} {fd : FuncData} (F : Fun K "_law_board" "_law_board" s_law_board f fd) (D : FnC P w K mg base "_law_draw" ["bag", "many"] 1 ctBDraw) (Dr : FnC P w K mg base "_law_round" ["bag", "most"] 2 ctBRound) (Du : FnC P w K mg base "_law_rule" ["bag", "first", "second", "words"] 2 ctBRule) : FnOk P w K mg base CX0 3 f fd ["bag", "words"] (cSp K ctBBoard) := by
  have hsc := sc_law_board
  have hnd := sc_law_board.nd
  refine fnD F sc_law_board (fun as rs Q h => ?_) fun cdv A outer s H E as rs Q hr h => ?_
  · obtain ⟨_, n, rfl, _, _, rfl, _⟩ := h; rfl
  · obtain ⟨_, n, rfl, rfl, hn, rfl, q⟩ := h
    refine sw_cons ?_
    walk_at "w"
    refine ⟨_, .cons (.cons (.cons (.cons (.cons (.cons (.cons (.cons .nil))))))), by simp, ?_⟩
    walk_at "w"
    refine kc_bdraw rfl (by omega) (by omega) (by omega) fun r0 h1 h2 => ?_
    obtain ⟨dm, hdm, hmm⟩ := pickI (ds := [Da.int 4, .int 9, .int 12, .int 12, .int 12, .int 12, .int 12, .int 40]) h1 (by simpa using h2)
    obtain ⟨m, rfl, hk1, hk2⟩ : ∃ m : Nat, dm = .int m ∧ 1 ≤ m ∧ m ≤ 40 := by
      simp only [List.mem_cons, List.not_mem_nil, or_false] at hmm
      rcases hmm with e | e | e | e | e | e | e | e <;> (subst e; first | exact ⟨4, rfl, by omega, by omega⟩ | exact ⟨9, rfl, by omega, by omega⟩ | exact ⟨12, rfl, by omega, by omega⟩ | exact ⟨40, rfl, by omega, by omega⟩)
    refine xv_seq (.tup (.sh _)) hdm ?_
    walk_at "w"
    refine sw_cons (s_par 3 4 ?_ hnd)
    walk_at "w"
    refine kc_T (ds := [.int m]) rfl (.cons .nil) (by omega) ⟨m, rfl, by omega, hk2⟩ ?_
    rintro _ ⟨x, rfl, hx1, hx2, hx⟩
    walk_at "w"
    refine kc_bdraw rfl (by omega) (by omega) (by omega) fun r1 h3 h4 => ?_
    obtain ⟨dm, hdm, hmm⟩ := pickI (ds := [Da.int m, .int 5]) h3 (by simpa using h4)
    obtain ⟨m', rfl, hk3, hk4⟩ : ∃ m : Nat, dm = .int m ∧ 1 ≤ m ∧ m ≤ 40 := by
      simp only [List.mem_cons, List.not_mem_nil, or_false] at hmm
      rcases hmm with e | e <;> subst e
      · exact ⟨m, rfl, by omega, by omega⟩
      · exact ⟨5, rfl, by omega, by omega⟩
    refine xv_seq (.tup (.sh _)) hdm ?_
    walk_at "w"
    refine kc_T (ds := [.int m']) rfl (.cons .nil) (by omega) ⟨m', rfl, hk3, hk4⟩ ?_
    rintro _ ⟨y, rfl, hy1, hy2, hy⟩
    walk_at "w"
    refine ⟨_, _, rfl, ?_⟩
    refine sw_cons ?_
    walk_at "w"
    refine kc_T (ds := [.str x, .str y, wordsD]) rfl (.cons (.cons (.cons .nil))) (by omega) ⟨x, y, rfl⟩ ?_
    rintro _ ⟨rows, rfl, hrows⟩
    walk_at "w"
    exact trim_gh (gh_tray3 (k := 0) rfl (show n + 1 + 42 + 1 + 42 + 110 ≤ n + 220 by omega)) 1 (q _ ⟨x, y, rows, rfl, hx1, hx2, hx, hy1, hy2, hy, hrows⟩)
end

-- needs:
/-! ## the board -/
structure BoardC (K : PySem.W.Frag) (C : Addr) : Prop where
  cls : Cls K C
  n1 : NoAttr K C "rounds_held"
  n2 : NoAttr K C "words_held"
def bdF (bd : Bd) : List (Str × Da) := [("rounds_held", .tup [.str bd.a, .str bd.b]), ("words_held", .dT (kvR bd.rows))]
def bdD (C : Addr) (bd : Bd) : Da := .ins C (bdF bd)
def bdA (bd : Bd) : List Da := [.str bd.a, .str bd.b, rowsD bd.rows]
section
variable {P : Program} {w : World} {K : PySem.W.Frag} {mg : Str → Option Value} {base : Heap} {C : Addr}
theorem ew_fr {X : Cx} {sl : Sl} {rs : List Res} {Q : EQ} {e : Expr} {pos : Pos} (B : BoardC K C) (h : EW X sl e rs fun r rs1 => ∃ bd, InsV rs1 r C (bdF bd) ∧ Q (.sh (.tup [.str bd.a, .str bd.b])) rs1) (e3 : X.K = K := by rfl) (hb : attributeBase e "rounds_held" X.env (eval e X.env) = eval e X.env := by rfl) : EW X sl (.Attribute e "rounds_held" pos) rs Q :=
  ew_fld (h.mono fun r rs' ⟨bd, v, q⟩ => ⟨C, _, _, v, by rw [e3]; exact B.cls, by rw [e3]; exact B.n1, rfl, q⟩) hb
theorem ew_fw {X : Cx} {sl : Sl} {rs : List Res} {Q : EQ} {e : Expr} {pos : Pos} (B : BoardC K C) (h : EW X sl e rs fun r rs1 => ∃ bd, InsV rs1 r C (bdF bd) ∧ Q (.sh (.dT (kvR bd.rows))) rs1) (e3 : X.K = K := by rfl) (hb : attributeBase e "words_held" X.env (eval e X.env) = eval e X.env := by rfl) : EW X sl (.Attribute e "words_held" pos) rs Q :=
  ew_fld (h.mono fun r rs' ⟨bd, v, q⟩ => ⟨C, _, _, v, by rw [e3]; exact B.cls, by rw [e3]; exact B.n2, rfl, q⟩) hb
abbrev ctWords : Ct := ctF (fun rows : List RowT => RowsOk rows) (fun rows => [rowsD rows]) (fun rows => .dT (kvR rows))
theorem ok_words {f : Addr} {fd : FuncData} (F : Fun K "words_of" "words_of" s_words_of f fd) (ze : mg "enumerate" = none) (gW : GlD K mg "WORDS" (.tupK [.str "first", .str "second", .str "other"])) : FnOk P w K mg base CX0 1 f fd ["rule"] (cSp K ctWords) := by
  have hsc := sc_words_of
  refine fnD F sc_words_of (fun as rs Q h => ?_) fun cdv A outer s H E as rs Q hr h => ?_
  · obtain ⟨rows, rfl, _⟩ := h; rfl
  · obtain ⟨rows, rfl, rfl, hok, q⟩ := h
    have hu := hr.units
    have hok : RowsOk rows := hok
    have q : Q (.sh (.dT (kvR rows))) [] := q
    show SW _ (slots _ [.sh (rowsD rows)]) _ _ _
    walk_at "d"
    walk_at "d"
    refine ew_dnew ?_
    refine sw_cons (s_for (fun k sl rs => ∃ a b c d, sl = [some (.sh (rowsD rows)), some (.rf 0), a, b, c, d] ∧ rs = [.dT ((kvR rows).take k)]) ?_)
    refine iw_enum ze ?_
    repeat walk_at "d"
    refine ⟨⟨_, _, _, _, rfl, rfl⟩, ?_, ?_⟩
    · rintro k d sl rs hk ⟨a, b, c, e, rfl, rfl⟩
      obtain ⟨x, hx, rfl⟩ := enumD_get hk
      rw [List.getElem?_map] at hx
      obtain ⟨r, hr', rfl⟩ := Option.map_eq_some_iff.mp hx
      obtain ⟨x, y, word⟩ := r
      have hkl : k < rows.length := (List.getElem?_eq_some_iff.mp hr').1
      have hw : word = "first" ∨ word = "second" ∨ word = "other" := hok.ws _ (List.mem_of_getElem? hr')
      have hlen := hok.len
      refine gw_tup (.sh _) (gws_cons ?_)
      walk_at "gn"
      refine gws_cons (gw_tup (.sh _) (gws_cons ?_))
      walk_at "gn"
      refine gws_cons ?_
      walk_at "gn"
      refine gws_cons ?_
      walk_at "gn"
      refine gws_nil (gws_nil ?_)
      refine sw_cons (s_if (tw_tb (tb_or ?_)))
      repeat walk_at "d"
      refine bv_ninF (w := .str word) (ws := [.str "first", .str "second", .str "other"]) (b := false) .tupK rfl rfl (by rcases hw with e | e | e <;> (rw [e]; decide +kernel)) ?_
      refine ⟨_, rfl, fun z => (nomatch z), fun _ => tb_or1 ?_⟩
      repeat walk_at "d"
      refine ⟨_, .cons (.cons .nil), by simp, ?_⟩
      repeat walk_at "d"
      have hv : valD ((kvR rows).take k) [.inr x, .inr y] = none := by
        refine valD_none ?_
        intro hm
        rw [List.map_take] at hm
        have nd := kvR_nodup hok.nd
        have h2 : ((kvR rows).map (·.1))[k]? = some [.inr x, .inr y] := by
          unfold kvR
          rw [List.map_map, List.getElem?_map, hr']; rfl
        obtain ⟨j, hj, e⟩ := List.mem_take_iff_getElem.mp hm
        have hk3 : k < ((kvR rows).map (·.1)).length := (List.getElem?_eq_some_iff.mp h2).1
        have hj2 : j < k := by omega
        have e3 : ((kvR rows).map (·.1))[k] = [.inr x, .inr y] := (List.getElem?_eq_some_iff.mp h2).2
        have := List.pairwise_iff_getElem.mp nd j k (by omega) hk3 hj2
        exact this (e.trans e3.symm)
      refine bv_inT (bb := false) hu (.dT rfl) rfl (by rw [hv]; rfl) ?_
      refine ⟨_, rfl, fun z => (nomatch z), fun _ => sw_nil (sw_cons ?_)⟩
      refine s_dput hu ?_
      repeat walk_at "d"
      refine ⟨_, .cons (.cons .nil), by simp, ?_⟩
      refine ⟨_, _, _, _, _, rfl, rfl, ?_, rfl, rfl, rfl, sw_nil ⟨_, _, _, _, rfl, ?_⟩⟩
      · rw [List.length_take]; unfold kvR; rw [List.length_map]; omega
      · show [Res.dT _] = [Res.dT _]
        rw [putD_new hv, List.take_add_one]
        congr 2
        unfold kvR
        rw [List.getElem?_map, hr']; rfl
    · rintro sl rs ⟨a, b, c, e, rfl, rfl⟩
      repeat walk_at "d"
      refine trim_dT 0 rfl ?_
      rw [enumD_len, List.length_map, List.take_of_length_le (by unfold kvR; rw [List.length_map]; exact Nat.le_refl _)]
      exact q
abbrev ctInit (C : Addr) : Ct := ctI C Bd.ok bdA bdF
theorem ok_init {f : Addr} {fd : FuncData} (F : Fun K "__init__" "Board.__init__" s_Board_init f fd) (B : BoardC K C) (ze : mg "enumerate" = none) (D : FnC P w K mg base "words_of" ["rule"] 1 ctWords) : FnOk P w K mg base CX0 2 f fd ["self", "first", "second", "rule"] (cSp K (ctInit C)) := by
  have hsc := sc_Board_init
  refine fnD F sc_Board_init (fun as rs Q h => ?_) fun cdv A outer s H E as rs Q hr h => ?_
  · obtain ⟨bd, rfl, _⟩ := h; rfl
  · obtain ⟨bd, rfl, rfl, hok, q⟩ := h
    have hok : bd.ok := hok
    have q : Q (.sh .non) [.ins C (bdF bd)] := q
    show SW _ (slots _ [.rf 0, .sh (.str bd.a), .sh (.str bd.b), .sh (rowsD bd.rows)]) _ _ _
    refine sw_cons (s_for (fun k sl rs => ∃ a b, sl = [some (.rf 0), some (.sh (.str bd.a)), some (.sh (.str bd.b)), some (.sh (rowsD bd.rows)), a, b] ∧ rs = [.ins C []]) ?_)
    refine iw_enumT ze ?_
    walk_at "d"
    refine ew_tup ?_
    repeat walk_at "d"
    refine ⟨_, .cons (.cons .nil), by simp, ?_⟩
    repeat walk_at "d"
    refine ⟨⟨_, _, rfl, rfl⟩, ?_, ?_⟩
    · rintro k d sl rs hk ⟨a, b, rfl, rfl⟩
      obtain ⟨x, hx, rfl⟩ := enumD_get hk
      have hx2 : ∃ y : Str, x = .str y ∧ y ≠ "" := by
        have ne : ∀ y : Str, 1 ≤ y.length → y ≠ "" := fun y h z => by rw [z] at h; exact absurd h (by decide)
        match k, hx with
        | 0, hx => cases hx; exact ⟨_, rfl, ne _ hok.a1⟩
        | 1, hx => cases hx; exact ⟨_, rfl, ne _ hok.b1⟩
      obtain ⟨y, rfl, hy⟩ := hx2
      refine gw_tup (.sh _) (gws_cons ?_)
      walk_at "gn"
      refine gws_cons ?_
      walk_at "gn"
      refine gws_nil (sw_cons (s_if ?_))
      repeat walk_at "d"
      rw [decide_eq_false hy]
      exact ⟨fun z => (nomatch z), fun _ => sw_nil (sw_nil ⟨_, _, rfl, rfl⟩)⟩
    · rintro sl rs ⟨a, b, rfl, rfl⟩
      refine sw_cons (s_fld ?_)
      walk_at "d"
      refine aw_cons ?_
      repeat walk_at "d"
      refine ⟨_, .cons (.cons .nil), by simp, ?_⟩
      repeat walk_at "d"
      refine ⟨0, C, [], _, rfl, rfl, rfl, B.cls, B.n1, by decide, ?_⟩
      refine sw_cons (s_fld ?_)
      repeat walk_at "d"
      refine kc_F bd.rows (.cons .nil) hok.rows ?_
      repeat walk_at "d"
      refine ⟨0, C, _, _, rfl, rfl, rfl, B.cls, B.n2, by simp [putFD], ?_⟩
      refine sw_nil (trim_of 1 ?_)
      exact q
abbrev ctFirst (C : Addr) : Ct := ctF Bd.ok (fun bd => [bdD C bd]) (fun bd => .str bd.a)
theorem ok_first {f : Addr} {fd : FuncData} (F : Fun K "first" "Board.first" s_Board_first f fd) (B : BoardC K C) : FnOk P w K mg base CX0 1 f fd ["self"] (cSp K (ctFirst C)) := by
  have hsc := sc_Board_first
  refine fnD F sc_Board_first (fun as rs Q h => ?_) fun cdv A outer s H E as rs Q hr h => ?_
  · obtain ⟨bd, rfl, _⟩ := h; rfl
  · obtain ⟨bd, rfl, rfl, hok, q⟩ := h
    have q : Q (.sh (.str bd.a)) [] := q
    show SW _ (slots _ [.sh (bdD C bd)]) _ _ _
    repeat walk_at "d"
    refine ew_ix (ew_fr B ?_)
    repeat walk_at "d"
    refine ⟨bd, .sh, ?_⟩
    repeat walk_at "d"
    refine .seq (.tup (.sh _)) (atI_nat (j := 0) rfl) ?_
    rintro _ rfl
    exact trim_of 0 q
abbrev ctSecond (C : Addr) : Ct := ctF Bd.ok (fun bd => [bdD C bd]) (fun bd => .str bd.b)
theorem ok_second {f : Addr} {fd : FuncData} (F : Fun K "second" "Board.second" s_Board_second f fd) (B : BoardC K C) : FnOk P w K mg base CX0 1 f fd ["self"] (cSp K (ctSecond C)) := by
  have hsc := sc_Board_second
  refine fnD F sc_Board_second (fun as rs Q h => ?_) fun cdv A outer s H E as rs Q hr h => ?_
  · obtain ⟨bd, rfl, _⟩ := h; rfl
  · obtain ⟨bd, rfl, rfl, hok, q⟩ := h
    have q : Q (.sh (.str bd.b)) [] := q
    show SW _ (slots _ [.sh (bdD C bd)]) _ _ _
    repeat walk_at "d"
    refine ew_ix (ew_fr B ?_)
    repeat walk_at "d"
    refine ⟨bd, .sh, ?_⟩
    repeat walk_at "d"
    refine .seq (.tup (.sh _)) (atI_nat (j := 1) rfl) ?_
    rintro _ rfl
    exact trim_of 0 q
abbrev ctWordAt (C : Addr) : Ct := ctF (fun p : Bd × Nat × Nat => p.1.ok ∧ p.2.1 < p.1.a.length ∧ p.2.2 < p.1.b.length) (fun p => [bdD C p.1, .int p.2.1, .int p.2.2]) (fun p => .str (p.1.wd p.2.1 p.2.2))
theorem ok_wordAt {f : Addr} {fd : FuncData} (F : Fun K "word_at" "Board.word_at" s_Board_word_at f fd) (B : BoardC K C) (gO : GlD K mg "OTHER" (.str "other")) : FnOk P w K mg base CX0 1 f fd ["self", "i", "j"] (cSp K (ctWordAt C)) := by
  have hsc := sc_Board_word_at
  refine fnD F sc_Board_word_at (fun as rs Q h => ?_) fun cdv A outer s H E as rs Q hr h => ?_
  · obtain ⟨bd, rfl, _⟩ := h; rfl
  · obtain ⟨⟨bd, i, j⟩, rfl, rfl, ⟨hok, hi, hj⟩, q⟩ := h
    have hu := hr.units
    have q : Q (.sh (.str (bd.wd i j))) [] := q
    have hok : bd.ok := hok
    have hi : i < bd.a.length := hi
    have hj : j < bd.b.length := hj
    have h2 := hok.a2
    have h3 := hok.b2
    show SW _ (slots _ [.sh (bdD C bd), .sh (.int i), .sh (.int j)]) _ _ _
    refine sw_cons (s_tup (ew_fr B ?_))
    repeat walk_at "d"
    refine ⟨bd, .sh, ?_⟩
    refine gw_tup (.sh _) (gws_cons ?_)
    walk_at "gn"
    refine gws_cons ?_
    walk_at "gn"
    refine gws_nil ?_
    walk_at "d"
    walk_at "d"
    refine ew_dget hu (ew_fw B ?_)
    repeat walk_at "d"
    refine ⟨bd, .sh, ?_⟩
    refine ⟨_, .sh _, ?_⟩
    walk_at "d"
    walk_at "d"
    refine ew_ix ?_
    repeat walk_at "d"
    obtain ⟨c1, e1, e2⟩ := chr_at hi
    refine .str (by omega) e1 ?_
    walk_at "d"
    refine ew_ix ?_
    repeat walk_at "d"
    obtain ⟨c2, e3, e4⟩ := chr_at hj
    refine .str (by omega) e3 ?_
    repeat walk_at "d"
    refine ⟨_, .cons (.cons .nil), by simp, ?_⟩
    repeat walk_at "d"
    refine ⟨_, _, _, _, .sh _, rfl, rfl, rfl, ?_⟩
    rw [look_kvR]
    have e : lookR bd.rows ⟨#[c1]⟩ ⟨#[c2]⟩ = bd.wd i j := by unfold Bd.wd; rw [e2, e4]
    rw [e]
    exact trim_of 0 q
end

-- needs: BOARD
/-! ## boards compared -/
section
set_option pp.maxSteps 500
variable {P : Program} {w : World} {K : PySem.W.Frag} {mg : Str → Option Value} {base : Heap} {C : Addr}
def txB (bd : Bd) : Prop := okK [.inr bd.a, .inr bd.b] = true
abbrev ctEqB (C : Addr) : Ct := ctF (fun p : Bd × Bd => (p.1.ok ∧ txB p.1) ∧ p.2.ok ∧ txB p.2) (fun p => [bdD C p.1, bdD C p.2]) (fun p => .bl (eqB p.1 p.2))
theorem ok_beq {f : Addr} {fd : FuncData} (F : Fun K "__eq__" "Board.__eq__" s_Board_eq f fd) (B : BoardC K C) (O : OwnC K C) (gB : GlD K mg "Board" (.adr C)) (zi : mg "isinstance" = none) : FnOk P w K mg base CX0 1 f fd ["self", "other"] (cSp K (ctEqB C)) := by
  have hsc := sc_Board_eq
  refine fnD F sc_Board_eq (fun as rs Q h => ?_) fun cdv A outer s H E as rs Q hr h => ?_
  · obtain ⟨p, rfl, _⟩ := h; rfl
  · obtain ⟨⟨bd, bd'⟩, rfl, rfl, ⟨⟨hok, htx⟩, hok', htx'⟩, q⟩ := h
    have hu := hr.units
    have hu2 := un2_of hr
    have q : Q (.sh (.bl (eqB bd bd'))) [] := q
    show SW _ (slots _ [.sh (bdD C bd), .sh (bdD C bd')]) _ _ _
    refine sw_cons (s_if (tw_is (B := false) (tw_not ?_) ⟨fun z => (nomatch z), fun _ => sw_nil ?_⟩))
    · walk_at "w"
      refine cv_isO O .sh ?_
      exact ⟨_, rfl, rfl, rfl⟩
    refine sw_cons ?_
    refine s_ret (ew_and ?_)
    walk_at "w"
    refine ew_fr B ?_
    walk_at "w"
    refine ⟨bd, .sh, ?_⟩
    refine ew_fr B ?_
    walk_at "w"
    refine ⟨bd', .sh, ?_⟩
    refine bv_eqD (n := 1) (m := 1) hu (.sh (tK [.inr bd.a, .inr bd.b])) (.sh (tK [.inr bd'.a, .inr bd'.b])) (okD_tK htx) (okD_tK htx') ?_
    rw [eqD_tK]
    have e : decide (([Sum.inr bd.a, Sum.inr bd.b] : List Key) = [Sum.inr bd'.a, Sum.inr bd'.b]) = decide (bd.a = bd'.a ∧ bd.b = bd'.b) := by simp
    rw [e]
    unfold eqB at q
    refine ⟨_, rfl, fun z => ?_, fun z => ?_⟩
    · rw [z, Bool.false_and] at q
      exact trim_of 0 q
    · rw [z, Bool.true_and] at q
      refine ew_one ?_
      walk_at "w"
      refine ew_fw B ?_
      walk_at "w"
      refine ⟨bd, .sh, ?_⟩
      refine ew_fw B ?_
      walk_at "w"
      refine ⟨bd', .sh, ?_⟩
      refine bv_eqR hu2 (.sh _) (.sh _) ?_
      exact trim_of 0 q
end

-- needs: BOARD
/-! ## the rule told -/
section
variable {P : Program} {w : World} {K : PySem.W.Frag} {mg : Str → Option Value} {base : Heap} {C : Addr}
abbrev ctRule (C : Addr) : Ct := ctF Bd.ok (fun bd => [bdD C bd]) (fun bd => ruleD bd.rows)
theorem ok_rule {f : Addr} {fd : FuncData} (F : Fun K "rule" "Board.rule" s_Board_rule f fd) (B : BoardC K C) (zs : mg "sorted" = none) : FnOk P w K mg base CX0 1 f fd ["self"] (cSp K (ctRule C)) := by
  have hsc := sc_Board_rule
  have hnd := sc_Board_rule.nd
  refine fnD F sc_Board_rule (fun as rs Q h => ?_) fun cdv A outer s H E as rs Q hr h => ?_
  · obtain ⟨bd, rfl, _⟩ := h; rfl
  · obtain ⟨bd, rfl, rfl, hok, q⟩ := h
    have hu := hr.units
    have hok : bd.ok := hok
    have nd := hok.rows.nd
    have hlen := hok.rows.len
    have q : Q (.sh (ruleD bd.rows)) [] := q
    show SW _ (slots _ [.sh (bdD C bd)]) _ _ _
    have hl2 : (sortK (bd.rows.map rowK)).length = bd.rows.length := by rw [sortK_len, List.length_map]
    have hl3 : (sortK (bd.rows.map pairK)).length = bd.rows.length := by rw [sortK_len, List.length_map]
    walk_at "d"
    walk_at "d"
    refine ew_lc (fun k rs => rs = [.lst (((sortK (bd.rows.map rowK)).take k).map tK)]) [("one", 1), ("two", 2)] (fun s H C cl fp => lcg_tup (lcn_cons 1 (lcn_cons 2 lcn_nil hnd) hnd)) ?_ hnd
    refine iw_list ?_
    walk_at "d"
    refine aw_cons (ew_fw B ?_)
    repeat walk_at "d"
    refine ⟨bd, .sh, ?_⟩
    repeat walk_at "d"
    refine cv_sortedT rfl true [true] (.sh _) (fun p hp => ?_) ?_
    · obtain ⟨r, hr, rfl⟩ := List.mem_map.mp hp; rfl
    rw [kvR_keys]
    refine ⟨_, rfl, rfl, ?_, ?_⟩
    · rintro k d rs hd rfl
      rw [List.getElem?_map] at hd
      obtain ⟨p, hp, rfl⟩ := Option.map_eq_some_iff.mp hd
      obtain ⟨r, hr', rfl⟩ := sort_pair (List.mem_of_getElem? hp)
      have hkl : k < bd.rows.length := by rw [← hl3]; exact (List.getElem?_eq_some_iff.mp hp).1
      have hrow : (sortK (bd.rows.map rowK))[k]? = some (rowK r) := by
        rw [rule_eq nd, List.getElem?_map, hp]
        show some (pairK r ++ [.inr (lookR bd.rows r.1 r.2.1)]) = _
        rw [look_row nd hr']
        rfl
      refine ⟨_, rfl, fun s H C' cl fp => pws_nil ⟨fun z => (nomatch z), fun _ s H C' cl fp => ?_⟩⟩
      show EW _ _ _ _ _
      walk_at "d"
      refine aw_cons ?_
      walk_at "d"
      refine aw_cons ?_
      walk_at "d"
      refine aw_cons (ew_ixT hu (ew_fw B ?_))
      repeat walk_at "d"
      refine ⟨bd, .sh, ?_⟩
      repeat walk_at "d"
      refine ⟨_, .cons (.cons .nil), by simp, ?_⟩
      refine ⟨_, _, _, _, .sh _, rfl, rfl, val_row nd hr', ?_⟩
      repeat walk_at "d"
      refine ⟨_, .cons (.cons (.cons .nil)), by simp, ?_⟩
      refine ⟨_, _, rfl, rfl, by rw [List.length_map, List.length_take]; omega, ?_⟩
      show [Res.lst _] = [Res.lst _]
      rw [List.take_add_one, hrow, List.map_append]
      rfl
    · rintro rs rfl
      rw [List.length_map, hl3, ← hl2, List.take_of_length_le (Nat.le_refl _)]
      exact trim_lst 0 rfl q
end

-- needs: BOARD RULE
/-! ## the board turned about -/
section
set_option pp.maxSteps 500
variable {P : Program} {w : World} {K : PySem.W.Frag} {mg : Str → Option Value} {base : Heap} {C : Addr}
theorem xv_kd {X : Cx} {rs : List Res} {Q : EQ} {A : Addr} {x y : Str} (h : KDct X.K X.w A x (.str y)) (q : Q (.sh (.str y)) rs) : XV X (.sh (.adr A)) (.sh (.str x)) rs Q := ⟨fun T H v1 v2 R p1 p2 => by
  refine xvS.of ix_kdict ?_
  cases p1; cases p2
  exact ⟨A, x, .str y, rfl, rfl, h, epost R (r := .sh (.str y)) (.str _) q⟩⟩
def unR (k : List Key) : RowT := match k with
  | [.inr a, .inr b, .inr c] => (a, b, c)
  | _ => ("", "", "")
theorem unR_row (r : RowT) : unR (rowK r) = r := rfl
/-- the rows in order -/
def ordR (rows : List RowT) : List RowT := (sortK (rows.map rowK)).map unR
theorem ordR_perm (rows : List RowT) : (ordR rows).Perm rows := by
  have := (sortK_perm (rows.map rowK)).map unR
  rw [List.map_map] at this
  have e : (unR ∘ rowK) = id := funext unR_row
  rw [e, List.map_id] at this
  exact this
theorem ruleD_rows (rows : List RowT) : ruleD rows = rowsD (ordR rows) := by
  unfold ruleD rowsD ordR
  rw [List.map_map]
  congr 1
  refine List.map_congr_left fun k hk => ?_
  obtain ⟨r, _, rfl⟩ := List.mem_map.mp ((sortK_perm _).mem_iff.mp hk)
  rfl
def turnB (bd : Bd) : Bd := ⟨bd.b, bd.a, (ordR bd.rows).map swapR⟩
theorem turnB_perm (bd : Bd) : ((ordR bd.rows).map swapR).Perm (bd.rows.map swapR) := (ordR_perm bd.rows).map swapR
theorem rows_perm {ra rb : List RowT} (h : RowsOk rb) (p : ra.Perm rb) : RowsOk ra := ⟨(p.map _).nodup_iff.mpr h.nd, fun r hr => h.ws r (p.mem_iff.mp hr), by rw [p.length_eq]; exact h.len⟩
theorem turnB_ok {bd : Bd} (h : bd.ok) : (turnB bd).ok := ⟨h.b1, h.b2, h.a1, h.a2, rows_perm h.rows.swap (turnB_perm bd)⟩
abbrev ctTurn (C : Addr) : Ct := ctF Bd.ok (fun bd => [bdD C bd]) (fun bd => bdD C (turnB bd))
theorem ok_turned {A : Addr} {f : Addr} {fd : FuncData} (F : Fun K "turned" "turned" s_turned f fd) (M1 : MeC P w K mg base C "first" ["self"] 1 (ctFirst C)) (M2 : MeC P w K mg base C "second" ["self"] 1 (ctSecond C)) (M3 : MeC P w K mg base C "rule" ["self"] 1 (ctRule C)) (Mk : MkC P w K mg base C "Board" ["self", "first", "second", "rule"] 2 Bd.ok bdA bdF)
    (gT : GlD K mg "TURNED" (.adr A)) (k0 : KDct K w A "first" (.str "second")) (k1 : KDct K w A "second" (.str "first")) (k2 : KDct K w A "other" (.str "other")) : FnOk P w K mg base CX0 4 f fd ["board"] (cSp K (ctTurn C)) := by
  have hsc := sc_turned
  have hnd := sc_turned.nd
  refine fnD F sc_turned (fun as rs Q h => ?_) fun cdv A outer s H E as rs Q hr h => ?_
  · obtain ⟨bd, rfl, _⟩ := h; rfl
  · obtain ⟨bd, rfl, rfl, hok, q⟩ := h
    have hok : bd.ok := hok
    have hlen := hok.rows.len
    have hpl : (ordR bd.rows).length = bd.rows.length := (ordR_perm bd.rows).length_eq
    have q : Q (.sh (bdD C (turnB bd))) [] := q
    show SW _ (slots _ [.sh (bdD C bd)]) _ _ _
    refine sw_cons (s_setLc 1 (fun k rs => rs = [.lst (((ordR bd.rows).take k).map fun r => rowD (swapR r))]) [("here", 2), ("there", 3), ("word", 4)] (fun s H C cl fp => lcg_tup (lcn_cons 2 (lcn_cons 3 (lcn_cons 4 lcn_nil hnd) hnd) hnd)) ?_ hnd)
    refine iw_list ?_
    walk_at "w"
    refine kc_F bd (.cons .nil) hok ?_
    rw [ruleD_rows]
    walk_at "w"
    refine ⟨rfl, ?_, ?_⟩
    · rintro k d rs hd rfl
      rw [List.getElem?_map] at hd
      obtain ⟨r, hr', rfl⟩ := Option.map_eq_some_iff.mp hd
      have hw := hok.rows.ws r ((ordR_perm bd.rows).mem_iff.mp (List.mem_of_getElem? hr'))
      have hkl : k < (ordR bd.rows).length := (List.getElem?_eq_some_iff.mp hr').1
      refine ⟨_, rfl, fun s H C' cl fp => pws_nil ⟨fun z => (nomatch z), fun _ s H C' cl fp => ?_⟩⟩
      show EW _ _ _ _ _
      walk_at "w"
      refine xv_kd (y := owS r.2.2) ?_ ?_
      · rcases hw with e | e | e <;> rw [e]
        · exact k0
        · exact k1
        · exact k2
      walk_at "w"
      refine ⟨_, _, rfl, rfl, by rw [List.length_map, List.length_take]; omega, ?_⟩
      show [Res.lst _] = [Res.lst _]
      rw [List.take_add_one, hr', List.map_append]
      rfl
    · rintro rs rfl
      rw [List.length_map, List.take_of_length_le (Nat.le_refl _)]
      refine sw_gh (gh_frz (k := 0) rfl) ?_
      walk_at "w"
      refine sw_cons ?_
      walk_at "w"
      refine ew_make Mk (hr.mono (by decide)) ?_
      walk_at "w"
      refine kc_F bd (.cons .nil) hok ?_
      walk_at "w"
      refine kc_F bd (.cons .nil) hok ?_
      walk_at "w"
      refine ⟨turnB bd, .cons (.cons (.frz (by show _ = some (Res.frz (rowsD ((ordR bd.rows).map swapR))); unfold rowsD; rw [List.map_map]; rfl) .nil)), turnB_ok hok, ?_⟩
      exact trim_of 0 q
end

-- needs: BOARD
/-! ## walks -/
section
variable {P : Program} {w : World} {K : PySem.W.Frag} {mg : Str → Option Value} {base : Heap} {C : Addr}
theorem bd_nm (bd : Bd) : (bdF bd).lookup ("first" : Str) = none ∧ (bdF bd).lookup ("second" : Str) = none ∧ (bdF bd).lookup ("word_at" : Str) = none ∧ (bdF bd).lookup ("go" : Str) = none ∧ (bdF bd).lookup ("rule" : Str) = none ∧ (bdF bd).lookup ("word" : Str) = none := ⟨rfl, rfl, rfl, rfl, rfl, rfl⟩
abbrev ctPlace (C : Addr) : Ct := ctF (fun p : Bd × Nat × Nat => p.1.ok ∧ p.2.1 < p.1.a.length ∧ p.2.2 < p.1.b.length) (fun p => [bdD C p.1, .int p.2.1, .int p.2.2]) (fun _ => .non)
theorem ok_place {f : Addr} {fd : FuncData} (F : Fun K "need_place" "need_place" s_need_place f fd) (M1 : MeC P w K mg base C "first" ["self"] 1 (ctFirst C)) (M2 : MeC P w K mg base C "second" ["self"] 1 (ctSecond C)) (ze : mg "len" = none) : FnOk P w K mg base CX0 2 f fd ["board", "i", "j"] (cSp K (ctPlace C)) := by
  have hsc := sc_need_place
  refine fnD F sc_need_place (fun as rs Q h => ?_) fun cdv A outer s H E as rs Q hr h => ?_
  · obtain ⟨bd, rfl, _⟩ := h; rfl
  · obtain ⟨⟨bd, i, j⟩, rfl, rfl, ⟨hok, hi, hj⟩, q⟩ := h
    have q : Q (.sh .non) [] := q
    have hok : bd.ok := hok
    have hi : i < bd.a.length := hi
    have hj : j < bd.b.length := hj
    have h2 := hok.a2
    have h3 := hok.b2
    show SW _ (slots _ [.sh (bdD C bd), .sh (.int i), .sh (.int j)]) _ _ _
    refine sw_cons (s_if (tw_tb (tb_or (tw_not (tw_chain ?_)))))
    repeat walk_at "d"
    refine ⟨fun z => absurd z (by simp), fun _ => ?_⟩
    walk_at "d"
    refine aw_cons (ew_meth0 M1 hr ?_)
    repeat walk_at "d"
    refine ⟨_, .sh, (bd_nm bd).1, kc_F bd (.cons .nil) hok ?_⟩
    repeat walk_at "d"
    refine cv_lenS (by omega) ?_
    repeat walk_at "d"
    refine ⟨fun z => absurd z (by simp; omega), fun _ => tb_or1 (tw_not (tw_chain ?_))⟩
    repeat walk_at "d"
    refine ⟨fun z => absurd z (by simp), fun _ => ?_⟩
    walk_at "d"
    refine aw_cons (ew_meth0 M2 hr ?_)
    repeat walk_at "d"
    refine ⟨_, .sh, (bd_nm bd).2.1, kc_F bd (.cons .nil) hok ?_⟩
    repeat walk_at "d"
    refine cv_lenS (by omega) ?_
    repeat walk_at "d"
    refine ⟨fun z => absurd z (by simp; omega), fun _ => sw_nil (sw_nil (trim_of 0 q))⟩
abbrev ctNeedS (C : Addr) : Ct := ctF (fun p : Bd × Sd => p.1.ok ∧ p.2.ok p.1) (fun p => [bdD C p.1, p.2.da]) (fun _ => .non)
theorem ok_needS {f : Addr} {fd : FuncData} (F : Fun K "need_standing" "need_standing" s_need_standing f fd) (D : FnC P w K mg base "need_place" ["board", "i", "j"] 2 (ctPlace C)) (gF : GlD K mg "FIRST" (.str "first")) (gS : GlD K mg "SECOND" (.str "second")) : FnOk P w K mg base CX0 3 f fd ["board", "standing"] (cSp K (ctNeedS C)) := by
  have hsc := sc_need_standing
  refine fnD F sc_need_standing (fun as rs Q h => ?_) fun cdv A outer s H E as rs Q hr h => ?_
  · obtain ⟨bd, rfl, _⟩ := h; rfl
  · obtain ⟨⟨bd, st⟩, rfl, rfl, ⟨hok, hs⟩, q⟩ := h
    have q : Q (.sh .non) [] := q
    have hok : bd.ok := hok
    have hs : st.ok bd := hs
    show SW _ (slots _ [.sh (bdD C bd), .sh st.da]) _ _ _
    walk_at "d"
    refine s_tup ?_
    repeat walk_at "d"
    refine gw_tup (.sh _) (gws_cons ?_)
    walk_at "gn"
    refine gws_cons ?_
    walk_at "gn"
    refine gws_cons ?_
    walk_at "gn"
    refine gws_nil ?_
    repeat walk_at "d"
    refine kc_F (bd, st.i, st.j) (.cons (.cons (.cons .nil))) ⟨hok, hs.1, hs.2⟩ ?_
    refine sw_cons (s_if ?_)
    repeat walk_at "d"
    refine ⟨_, .cons (.cons .nil), by simp, ?_⟩
    refine bv_ninF (w := .str (lastT st.f)) (ws := [.str "first", .str "second"]) (b := false) (.tup (.sh _)) rfl rfl (by cases st.f <;> decide +kernel) ?_
    refine ⟨_, rfl, fun z => (nomatch z), fun _ => sw_nil (sw_nil (trim_of 0 q))⟩
abbrev ctAfter (C : Addr) : Ct := ctF (fun p : Bd × Sd => p.1.ok ∧ p.2.ok p.1) (fun p => [bdD C p.1, p.2.da]) (fun p => .tup [(p.1.tick p.2).da, .int (if p.1.fst p.2 then 1 else 0)])
theorem ok_after {f : Addr} {fd : FuncData} (F : Fun K "after" "after" s_after f fd) (M1 : MeC P w K mg base C "first" ["self"] 1 (ctFirst C)) (M2 : MeC P w K mg base C "second" ["self"] 1 (ctSecond C)) (M3 : MeC P w K mg base C "word_at" ["self", "i", "j"] 1 (ctWordAt C)) (ze : mg "len" = none) (gF : GlD K mg "FIRST" (.str "first")) (gS : GlD K mg "SECOND" (.str "second")) (gO : GlD K mg "OTHER" (.str "other")) : FnOk P w K mg base CX0 2 f fd ["board", "standing"] (cSp K (ctAfter C)) := by
  have hsc := sc_after
  refine fnD F sc_after (fun as rs Q h => ?_) fun cdv A outer s H E as rs Q hr h => ?_
  · obtain ⟨bd, rfl, _⟩ := h; rfl
  · obtain ⟨⟨bd, st⟩, rfl, rfl, ⟨hok, hs⟩, q⟩ := h
    have hok : bd.ok := hok
    have hs : st.ok bd := hs
    have h1 := hok.a1
    have h2 := hok.a2
    have h3 := hok.b1
    have h4 := hok.b2
    have yes : bd.fst st = true → Q (.sh (.tup [.tup [.int (((st.i : Int) + 1) % bd.a.length), .int st.j, .str "first"], .int 1])) [] := fun hf => by
      have e : bd.tick st = ⟨(st.i + 1) % bd.a.length, st.j, true⟩ := if_pos hf
      have q : Q (.sh (.tup [(bd.tick st).da, .int (if bd.fst st then 1 else 0)])) [] := q
      rw [e, hf] at q
      exact q
    have no : bd.fst st = false → Q (.sh (.tup [.tup [.int st.i, .int (((st.j : Int) + 1) % bd.b.length), .str "second"], .int 0])) [] := fun hf => by
      have e : bd.tick st = ⟨st.i, (st.j + 1) % bd.b.length, false⟩ := if_neg (by rw [hf]; decide)
      have q : Q (.sh (.tup [(bd.tick st).da, .int (if bd.fst st then 1 else 0)])) [] := q
      rw [e, hf] at q
      exact q
    show SW _ (slots _ [.sh (bdD C bd), .sh st.da]) _ _ _
    walk_at "d"
    refine s_tup ?_
    repeat walk_at "d"
    refine gw_tup (.sh _) (gws_cons ?_)
    walk_at "gn"
    refine gws_cons ?_
    walk_at "gn"
    refine gws_cons ?_
    walk_at "gn"
    refine gws_nil ?_
    walk_at "d"
    walk_at "d"
    refine ew_meth M3 (hr.mono (by decide)) ?_
    repeat walk_at "d"
    refine ⟨_, .sh, (bd_nm bd).2.2.1, ?_⟩
    repeat walk_at "d"
    refine kc_F (bd, st.i, st.j) (.cons (.cons (.cons .nil))) ⟨hok, hs.1, hs.2⟩ ?_
    refine sw_cons (s_if (tw_is (B := bd.fst st) (tw_tb (tb_or ?_)) ?_))
    · repeat walk_at "d"
      refine ⟨fun hb => ⟨?_, rfl⟩, fun hb => tb_or1 (tw_tb (tb_and ?_))⟩
      · unfold Bd.fst; rw [hb]; rfl
      repeat walk_at "d"
      refine ⟨fun hb2 => ⟨?_, rfl⟩, fun hb2 => tb_and1 ?_⟩
      · unfold Bd.fst; rw [hb, hb2]; rfl
      repeat walk_at "d"
      refine ⟨?_, rfl⟩
      unfold Bd.fst; rw [hb, hb2]
      cases st.f <;> decide
    refine ⟨fun hf => ?_, fun hf => sw_nil ?_⟩
    · walk_at "d"
      walk_at "d"
      walk_at "d"
      refine aw_cons ?_
      walk_at "d"
      refine aw_cons ?_
      repeat walk_at "d"
      refine ew_meth0 M1 (hr.mono (by decide)) ?_
      repeat walk_at "d"
      refine ⟨_, .sh, (bd_nm bd).1, kc_F bd (.cons .nil) hok ?_⟩
      repeat walk_at "d"
      refine cv_lenS (by omega) ?_
      repeat walk_at "d"
      refine ⟨_, .cons (.cons (.cons .nil)), by simp, ?_⟩
      repeat walk_at "d"
      refine ⟨_, .cons (.cons .nil), by simp, ?_⟩
      exact trim_of 0 (yes hf)
    · walk_at "d"
      walk_at "d"
      walk_at "d"
      refine aw_cons ?_
      walk_at "d"
      refine aw_cons ?_
      repeat walk_at "d"
      refine ew_meth0 M2 (hr.mono (by decide)) ?_
      repeat walk_at "d"
      refine ⟨_, .sh, (bd_nm bd).2.1, kc_F bd (.cons .nil) hok ?_⟩
      repeat walk_at "d"
      refine cv_lenS (by omega) ?_
      repeat walk_at "d"
      refine ⟨_, .cons (.cons (.cons .nil)), by simp, ?_⟩
      repeat walk_at "d"
      refine ⟨_, .cons (.cons .nil), by simp, ?_⟩
      exact trim_of 0 (no hf)
end

-- needs: BOARD GO
/-! ## the road, the steps, go -/
section
variable {P : Program} {w : World} {K : PySem.W.Frag} {mg : Str → Option Value} {base : Heap} {C : Addr}
def postRoad (p : Bd × Sd) (d : Da) : Prop := ∃ n b, p.1.Road p.2 n b ∧ d = .tup [.lst ((p.1.line p.2 n).map Sd.da), .int (b : Nat)]
abbrev ctRoad (C : Addr) : Ct := ctG (fun p : Bd × Sd => p.1.ok ∧ p.2.ok p.1) (fun p => [bdD C p.1, p.2.da]) postRoad
theorem ok_road {f : Addr} {fd : FuncData} (F : Fun K "road" "road" s_road f fd) (D : FnC P w K mg base "after" ["board", "standing"] 2 (ctAfter C)) (ze : mg "len" = none) (zl : mg "list" = none) : FnOk P w K mg base CX0 3 f fd ["board", "standing"] (cSp K (ctRoad C)) := by
  have hsc := sc_road
  refine fnD F sc_road (fun as rs Q h => ?_) fun cdv A outer s H E as rs Q hr h => ?_
  · obtain ⟨bd, rfl, _⟩ := h; rfl
  · obtain ⟨⟨bd, st⟩, rfl, rfl, ⟨hok, hs⟩, q⟩ := h
    have hu := hr.units
    have hok : bd.ok := hok
    have hs : st.ok bd := hs
    have hsz := hok.size
    show SW _ (slots _ [.sh (bdD C bd), .sh st.da]) _ _ _
    walk_at "d"
    walk_at "d"
    refine ew_dnew ?_
    repeat walk_at "d"
    refine s_while (fun m sl rs => ∃ t c, m = bd.a.length * bd.b.length * 2 + 1 - t ∧ bd.apart st t ∧ sl = [some (.sh (bdD C bd)), some (.sh st.da), some (.rf 0), some (.sh (bd.go st t).da), c] ∧ rs = [.dT (kvG bd st t)]) (bd.a.length * bd.b.length * 2 + 1) ⟨0, none, rfl, fun t u h => absurd h (Nat.not_lt_zero t), rfl, rfl⟩ ?_
    rintro m sl rs ⟨t, c, rfl, hap, rfl, rfl⟩
    have htl := Bd.apart_le hok hs hap
    rcases valD_kvG bd st (bd.go st t) t with ⟨u, h1, h2, h3⟩ | ⟨h1, h2⟩
    · refine tw_is (B := false) ?_ ⟨fun z => (nomatch z), fun _ => ?_⟩
      · repeat walk_at "d"
        refine bv_ninT (kk := (bd.go st t).key) (bb := false) hu (.dT rfl) rfl (by rw [h3]; rfl) ?_
        exact ⟨_, rfl, rfl, rfl⟩
      walk_at "d"
      walk_at "d"
      walk_at "d"
      refine aw_cons ?_
      repeat walk_at "d"
      refine cv_listT rfl (.dT rfl) ?_
      rw [kvG_keys]
      refine aw_cons (ew_ixT hu ?_)
      repeat walk_at "d"
      refine ⟨_, _, (bd.go st t).key, _, .dT rfl, rfl, rfl, h3, ?_⟩
      repeat walk_at "d"
      refine ⟨_, .cons (.cons .nil), by simp, ?_⟩
      exact trim_of 0 (q _ ⟨t, u, ⟨h1, h2.symm, hap⟩, rfl⟩)
    · have hap' : bd.apart st (t + 1) := by
        intro x y hx hy e
        by_cases ex : x = t
        · by_cases ey : y = t
          · omega
          · exact absurd (by rw [← e, ex]) (h1 y (by omega))
        · by_cases ey : y = t
          · exact absurd (by rw [e, ey]) (h1 x (by omega))
          · exact hap x y (by omega) (by omega) e
      have htl' := Bd.apart_le hok hs hap'
      refine tw_is (B := true) ?_ ⟨fun _ => ?_, fun z => (nomatch z)⟩
      · repeat walk_at "d"
        refine bv_ninT (kk := (bd.go st t).key) (bb := true) hu (.dT rfl) rfl (by rw [h2]; rfl) ?_
        exact ⟨_, rfl, rfl, rfl⟩
      refine sw_cons (s_dput hu ?_)
      repeat walk_at "d"
      refine cv_lenT (.dT rfl) ?_
      repeat walk_at "d"
      refine ⟨_, _, _, (bd.go st t).key, _, rfl, rfl, by rw [kvG_len]; omega, rfl, rfl, rfl, ?_⟩
      rw [putD_new h2, kvG_len, ← kvG_succ]
      refine sw_cons (s_tup ?_)
      repeat walk_at "d"
      refine kc_F (bd, bd.go st t) (.cons (.cons .nil)) ⟨hok, Bd.go_ok hok hs t⟩ ?_
      refine gw_tup (.sh _) (gws_cons ?_)
      walk_at "gn"
      refine gws_cons ?_
      walk_at "gn"
      exact gws_nil (sw_nil ⟨bd.a.length * bd.b.length * 2 + 1 - (t + 1), by omega, t + 1, _, rfl, hap', rfl, rfl⟩)
abbrev ctSteps (C : Addr) : Ct := ctF (fun p : Bd × List Sd => p.1.ok ∧ (∀ x ∈ p.2, x.ok p.1) ∧ p.2.length ≤ 90000) (fun p => [bdD C p.1, .lst (p.2.map Sd.da)]) (fun p => stepsD p.1 p.2)
theorem ok_steps {f : Addr} {fd : FuncData} (F : Fun K "steps_on" "steps_on" s_steps_on f fd) (D : FnC P w K mg base "after" ["board", "standing"] 2 (ctAfter C)) : FnOk P w K mg base CX0 3 f fd ["board", "standings"] (cSp K (ctSteps C)) := by
  have hsc := sc_steps_on
  refine fnD F sc_steps_on (fun as rs Q h => ?_) fun cdv A outer s H E as rs Q hr h => ?_
  · obtain ⟨bd, rfl, _⟩ := h; rfl
  · obtain ⟨⟨bd, L⟩, rfl, rfl, ⟨hok, hL, hl⟩, q⟩ := h
    have hok : bd.ok := hok
    have hL : ∀ x ∈ L, x.ok bd := hL
    have hl : L.length ≤ 90000 := hl
    have q : Q (.sh (stepsD bd L)) [] := q
    show SW _ (slots _ [.sh (bdD C bd), .sh (.lst (L.map Sd.da))]) _ _ _
    walk_at "d"
    walk_at "d"
    refine ew_lstM ?_
    repeat walk_at "d"
    refine ⟨_, .cons .nil, by simp, ?_⟩
    refine sw_cons (s_for (fun k sl rs => ∃ c, sl = [some (.sh (bdD C bd)), some (.sh (.lst (L.map Sd.da))), some (.rf 0), c] ∧ rs = [.lst ((List.range (k + 1)).map fun k => .int (bd.cnt L k : Nat))]) ?_)
    refine iw_list ?_
    repeat walk_at "d"
    refine ⟨⟨_, rfl, rfl⟩, ?_, ?_⟩
    · rintro k d sl rs hk ⟨c, rfl, rfl⟩
      rw [List.getElem?_map] at hk
      obtain ⟨x, hx, rfl⟩ := Option.map_eq_some_iff.mp hk
      have hkl : k < L.length := (List.getElem?_eq_some_iff.mp hx).1
      walk_at "gn"
      walk_at "d"
      walk_at "d"
      refine ew_mL PySem.F.slot_list_append PySem.F.type_list_append ?_
      repeat walk_at "d"
      refine ⟨.vw (.lst rfl), ?_⟩
      refine aw_cons ?_
      walk_at "d"
      refine ew_ix ?_
      repeat walk_at "d"
      refine ew_un ?_
      repeat walk_at "d"
      refine uv_neg ?_
      refine .seq (d := .int (bd.cnt L k : Nat)) (.lst (.lst rfl)) ?_ ?_
      · have : (List.range (k + 1)).map (fun k => Da.int (bd.cnt L k : Nat)) = ((List.range k).map fun k => Da.int (bd.cnt L k : Nat)) ++ [.int (bd.cnt L k : Nat)] := by rw [List.range_succ, List.map_append]; rfl
        rw [this]
        exact atI_last _ _
      rintro _ rfl
      refine ew_ix ?_
      repeat walk_at "d"
      refine kc_F (bd, x) (.cons (.cons .nil)) ⟨hok, hL x (List.mem_of_getElem? hx)⟩ ?_
      repeat walk_at "d"
      refine .seq (.tup (.sh _)) (atI_nat (j := 1) rfl) ?_
      rintro _ rfl
      repeat walk_at "d"
      refine mv_append rfl (by rw [List.length_map, List.length_range]; omega) ?_
      refine sw_nil ⟨_, rfl, ?_⟩
      show [Res.lst _] = [Res.lst _]
      congr 2
      rw [show List.range (k + 1 + 1) = List.range (k + 1) ++ [k + 1] from List.range_succ, List.map_append]
      congr 1
      show [Da.int _] = [Da.int _]
      rw [Bd.cnt_succ hx]
      show [Da.int (_ + if bd.fst x = true then 1 else 0)] = _
      cases bd.fst x <;> rfl
    · rintro sl rs ⟨c, rfl, rfl⟩
      repeat walk_at "d"
      refine trim_lst 0 rfl ?_
      rw [List.length_map]
      exact q
def postGo (p : Bd × Sd × Nat) (d : Da) : Prop := ∃ n b, p.1.Road p.2.1 n b ∧ d = goD p.1 p.2.1 n b p.2.2
abbrev ctGo (C : Addr) : Ct := ctG (fun p : Bd × Sd × Nat => p.1.ok ∧ p.2.1.ok p.1) (fun p => [bdD C p.1, p.2.1.da, .int p.2.2]) postGo
theorem ok_go {f : Addr} {fd : FuncData} (F : Fun K "go" "Board.go" s_Board_go f fd) (D1 : FnC P w K mg base "need_standing" ["board", "standing"] 3 (ctNeedS C)) (D2 : FnC P w K mg base "road" ["board", "standing"] 3 (ctRoad C)) (D3 : FnC P w K mg base "steps_on" ["board", "standings"] 3 (ctSteps C)) (ze : mg "len" = none) (zd : mg "divmod" = none) : FnOk P w K mg base CX0 4 f fd ["self", "standing", "ticks"] (cSp K (ctGo C)) := by
  have hsc := sc_Board_go
  refine fnD F sc_Board_go (fun as rs Q h => ?_) fun cdv A outer s H E as rs Q hr h => ?_
  · obtain ⟨bd, rfl, _⟩ := h; rfl
  · obtain ⟨⟨bd, st, t⟩, rfl, rfl, ⟨hok, hs⟩, q⟩ := h
    have hok : bd.ok := hok
    have hs : st.ok bd := hs
    have hsz := hok.size
    show SW _ (slots _ [.sh (bdD C bd), .sh st.da, .sh (.int t)]) _ _ _
    repeat walk_at "d"
    refine kc_F (bd, st) (.cons (.cons .nil)) ⟨hok, hs⟩ ?_
    refine sw_cons (s_if ?_)
    repeat walk_at "d"
    refine ⟨fun z => absurd z (by simp), fun _ => sw_nil (sw_cons (s_tup ?_))⟩
    repeat walk_at "d"
    refine kc_G (bd, st) (.cons (.cons .nil)) ⟨hok, hs⟩ ?_
    rintro _ ⟨n, b, hR, rfl⟩
    have hn := Bd.apart_le hok hs hR.apart
    have hb : b < n := hR.lt
    refine gw_tup (.sh _) (gws_cons ?_)
    walk_at "gn"
    refine gws_cons ?_
    walk_at "gn"
    refine gws_nil ?_
    repeat walk_at "d"
    refine kc_F (bd, bd.line st n) (.cons (.cons .nil)) ⟨hok, Bd.line_ok hok hs, by show (bd.line st n).length ≤ _; rw [Bd.line_len]; omega⟩ ?_
    repeat walk_at "d"
    refine cv_len (.lst (.sh _)) ?_
    rw [List.length_map, Bd.line_len]
    have get : ∀ k : Nat, k ≤ n → atI ((List.range ((bd.line st n).length + 1)).map fun k => Da.int (bd.cnt (bd.line st n) k : Nat)) (k : Int) = some (.int (bd.F st k : Nat)) := fun k hk => by
      rw [stepsD_get (by rw [Bd.line_len]; exact hk), Bd.cnt_line hk]
    have getS : ∀ k : Nat, k < n → atI ((bd.line st n).map Sd.da) (k : Int) = some (bd.go st k).da := fun k hk => atI_nat (by rw [List.getElem?_map, Bd.line_get hk]; rfl)
    refine sw_cons (s_if ?_)
    repeat walk_at "d"
    refine ⟨fun hb1 => ?_, fun hb1 => sw_nil ?_⟩
    · have ht : t < n := by have := of_decide_eq_true hb1; omega
      walk_at "d"
      walk_at "d"
      walk_at "d"
      refine aw_cons (ew_ix ?_)
      repeat walk_at "d"
      refine .seq (.lst (.sh _)) (getS t ht) ?_
      rintro _ rfl
      refine aw_cons (ew_ix ?_)
      repeat walk_at "d"
      refine .seq (.lst (.sh _)) (get t (by omega)) ?_
      rintro _ rfl
      walk_at "d"
      walk_at "d"
      walk_at "d"
      refine ew_ix ?_
      repeat walk_at "d"
      refine .seq (.lst (.sh _)) (get t (by omega)) ?_
      rintro _ rfl
      repeat walk_at "d"
      refine ⟨_, .cons (.cons (.cons .nil)), by simp, ?_⟩
      refine trim_of 0 (q _ ⟨n, b, hR, ?_⟩)
      unfold goD
      rw [if_pos ht]
    · have ht : n ≤ t := by have := of_decide_eq_false hb1; omega
      have e1 : ((t : Int) - b) / ((n : Int) - b) = (((t - b) / (n - b) : Nat) : Int) := by
        rw [← Int.ofNat_sub (by omega), ← Int.ofNat_sub (by omega)]; rfl
      have e2 : ((t : Int) - b) % ((n : Int) - b) = (((t - b) % (n - b) : Nat) : Int) := by
        rw [← Int.ofNat_sub (by omega), ← Int.ofNat_sub (by omega)]; rfl
      have hm : (t - b) % (n - b) < n - b := Nat.mod_lt _ (by omega)
      have F1 := Bd.F_le (bd := bd) (s := st) n
      have F2 := Bd.F_le (bd := bd) (s := st) b
      refine sw_cons (s_tup ?_)
      repeat walk_at "d"
      refine cv_divmod (by omega) ?_
      rw [e1, e2]
      refine gw_tup (.sh _) (gws_cons ?_)
      walk_at "gn"
      refine gws_cons ?_
      walk_at "gn"
      refine gws_nil ?_
      have e3 : (b : Int) + (((t - b) % (n - b) : Nat) : Int) = ((b + (t - b) % (n - b) : Nat) : Int) := by omega
      walk_at "d"
      walk_at "d"
      walk_at "d"
      refine ew_ix ?_
      repeat walk_at "d"
      rw [e3]
      refine .seq (.lst (.sh _)) (get _ (by omega)) ?_
      rintro _ rfl
      walk_at "d"
      walk_at "d"
      walk_at "d"
      refine ew_ix ?_
      repeat walk_at "d"
      refine .seq (.lst (.sh _)) (get n (by omega)) ?_
      rintro _ rfl
      refine ew_ix ?_
      repeat walk_at "d"
      refine .seq (.lst (.sh _)) (get b (by omega)) ?_
      rintro _ rfl
      repeat walk_at "d"
      refine ew_ix ?_
      repeat walk_at "d"
      rw [e3]
      refine .seq (.lst (.sh _)) (getS _ (by omega)) ?_
      rintro _ rfl
      repeat walk_at "d"
      refine ⟨_, .cons (.cons (.cons .nil)), by simp, ?_⟩
      refine trim_of 0 (q _ ⟨n, b, hR, ?_⟩)
      unfold goD
      have ht' : ¬ t < n := by omega
      rw [if_neg ht']
end

-- needs: BOARD GO ROAD
/-! ## go, told outright -/
section
variable {P : Program} {w : World} {K : PySem.W.Frag} {mg : Str → Option Value} {base : Heap} {C : Addr}
abbrev ctGoF (C : Addr) : Ct := ctF (fun p : Bd × Sd × Nat => p.1.ok ∧ p.2.1.ok p.1) (fun p => [bdD C p.1, p.2.1.da, .int p.2.2]) (fun p => gonD p.1 p.2.1 p.2.2)
theorem goF_of {f : Addr} {fd : FuncData} {k : Nat} (F : FnOk P w K mg base CX0 k f fd ["self", "standing", "ticks"] (cSp K (ctGo C))) : FnOk P w K mg base CX0 k f fd ["self", "standing", "ticks"] (cSp K (ctGoF C)) :=
  F.imp fun vs H Q E ⟨T, rs, as, R, p, a, e1, e2, e3, q⟩ => ⟨T, rs, as, R, p, a, e1, e2, e3, fun d ⟨n, b, hR, e⟩ => by rw [e, goD_eq hR]; exact q⟩
end

-- needs:
/-! ## rings -/
section
set_option pp.maxSteps 500
variable {P : Program} {w : World} {K : PySem.W.Frag} {mg : Str → Option Value} {base : Heap}
structure PreR (c : List (List Key)) : Prop where
  ne : c ≠ []
  sh : ∃ b r, ShK (b :: r) c
  ok : ∀ k ∈ c, okK k = true
  len : c.length ≤ 90000
abbrev ctLeast : Ct := ctF PreR (fun c => [ringD c]) (fun c => ringD (leastK c))
theorem ok_least {f : Addr} {fd : FuncData} (F : Fun K "from_least" "from_least" s_from_least f fd) (zm : mg "min" = none) : FnOk P w K mg base CX0 1 f fd ["ring"] (cSp K ctLeast) := by
  have hsc := sc_from_least
  refine fnD F sc_from_least (fun as rs Q h => ?_) fun cdv A outer s H E as rs Q hr h => ?_
  · obtain ⟨c, rfl, _⟩ := h; rfl
  · obtain ⟨c, rfl, rfl, hc, q⟩ := h
    have hu := hr.units
    have hu2 := un2_of hr
    have hc : PreR c := hc
    have hlt := leastAt_lt hc.ne
    obtain ⟨b, r, hsh⟩ := hc.sh
    have q : Q (.sh (.lst ((leastK c).map tK))) [] := q
    rw [← ringD_eq] at q
    have hok := hc.ok
    have hlen := hc.len
    show SW _ (slots _ [.sh (.lst (c.map tK))]) _ _ _
    walk_at "w"
    refine sw_cons ?_
    walk_at "w"
    refine ew_mL PySem.F.slot_list_index PySem.F.type_list_index ?_
    walk_at "e"
    refine ⟨.vw (.sh _), ?_⟩
    walk_at "e"
    obtain ⟨k, c', rfl⟩ : ∃ k c', c = k :: c' := by
      cases c with
      | nil => exact absurd rfl hc.ne
      | cons k c' => exact ⟨k, c', rfl⟩
    refine cv_minP rfl hu2 (.sh _) (plains_tKs (k :: c')) (alikeAll_tK hsh) (depth_tKs k c') fun i z hz hm => ?_
    have hz' : ((k :: c').map tK)[i]? = some z := hz
    rw [List.getElem?_map] at hz'
    obtain ⟨zk, hzk, rfl⟩ := Option.map_eq_some_iff.mp hz'
    obtain ⟨h1, h2⟩ := leastAt_of (List.mem_of_getElem? hzk) hm
    walk_at "e"
    refine mv_indexK hu2 (.sh _) (hok _ (List.mem_of_getElem? hzk)) hok h1 h2 ?_
    generalize leastAt (k :: c') = n at hlt q
    walk_at "e"
    rw [cutD_from (by rw [List.length_map]; omega)]
    walk_at "e"
    rw [cutD_to (by rw [List.length_map]; omega)]
    refine bv_cat (.sh _) (.sh _) (by rw [List.length_drop, List.length_take, List.length_map]; omega) ?_
    rw [← List.map_drop, ← List.map_take]
    exact trim_of 0 q

theorem goR_shape {ks : List (List Key)} {f : List Key → List Key} (hL : LeadOk f ks) {s : List (List Key) × List (List (List Key))} (h : Met ks s) {k : List Key} (hk : k ∈ ks) : ∀ v ∈ (goR f (ks.length - s.1.length) s.1 [] k).1, v ∈ ks := by
  obtain ⟨m, w, _, _⟩ := goR_end hL.cl _ _ _ _ (h.way (f := f) hk)
  exact w.sub
theorem allR_len {κ : Type} [DecidableEq κ] (f : κ → κ) (least : List κ → List κ) (ks : List κ) : ∀ t, (allR f least ks t).2.length ≤ t
  | 0 => Nat.le_refl _
  | t + 1 => by
    have ih := allR_len f least ks t
    cases e : ks[t]? with
    | none =>
      have : ks.take (t + 1) = ks.take t := by rw [List.take_add_one, e]; simp
      unfold allR at ih ⊢; rw [this]; omega
    | some k =>
      rw [allR_succ e]
      unfold oneR
      dsimp only
      split
      · rw [List.length_append, List.length_singleton]; omega
      · omega
abbrev ctRings : Ct := ctF (fun p : (List Key → List Key) × List (List Key) => LeadOk p.1 p.2) (fun p => [.dL (kvL p.1 p.2)]) (fun p => .lst ((ringsK p.1 p.2).map ringD))
theorem ok_rings {g : Addr} {fd : FuncData} (F : Fun K "rings" "rings" s_rings g fd) (D : FnC P w K mg base "from_least" ["ring"] 1 ctLeast) (ze : mg "len" = none) (zl : mg "list" = none) (zs : mg "sorted" = none) : FnOk P w K mg base CX0 2 g fd ["leads"] (cSp K ctRings) := by
  have hsc := sc_rings
  refine fnD F sc_rings (fun as rs Q h => ?_) fun cdv A outer s H E as rs Q hr h => ?_
  · obtain ⟨p, rfl, _⟩ := h; rfl
  · obtain ⟨⟨f, ks⟩, rfl, rfl, hL, q⟩ := h
    have hu := hr.units
    have hu2 := un2_of hr
    have hL : LeadOk f ks := hL
    have hlen := hL.len
    obtain ⟨b, r, hsh⟩ := hL.sh
    have q : Q (.sh (.lst ((ringsK f ks).map ringD))) [] := q
    show SW _ (slots _ [.sh (.dL (kvL f ks))]) _ _ _
    walk_at "e"
    refine ew_dnew ?_
    walk_at "e"
    refine ew_lstM ?_
    walk_at "e"
    refine s_for (fun t sl rs => ∃ a, sl = [some (.sh (.dL (kvL f ks))), some (.rf 0), some (.rf 1), a, none, none] ∧ rs = [.dT (kvS (allR f leastK ks t).1), .lst ((allR f leastK ks t).2.map ringD)]) ?_
    refine iw_dL ?_
    walk_at "e"
    refine ⟨⟨_, rfl, rfl⟩, ?_, ?_⟩
    · rintro t d sl rs hd ⟨a, rfl, rfl⟩
      rw [List.getElem?_map] at hd
      obtain ⟨p0, hp0, rfl⟩ := Option.map_eq_some_iff.mp hd
      unfold kvL at hp0
      rw [List.getElem?_map] at hp0
      obtain ⟨k, hk, rfl⟩ := Option.map_eq_some_iff.mp hp0
      have ht : t < ks.length := (List.getElem?_eq_some_iff.mp hk).1
      have hkm : k ∈ ks := List.mem_of_getElem? hk
      have met := allR_met hL.cl (least := leastK) t (Nat.le_of_lt ht)
      have eN := allR_succ (f := f) (least := leastK) hk
      have hway := met.way (f := f) hkm
      generalize e0 : allR f leastK ks t = s0 at met eN hway
      have hrl : s0.2.length ≤ ks.length := by have := allR_len f leastK ks t; rw [e0] at this; omega
      walk_at "gn"
      refine sw_trim ?_
      walk_at "w"
      refine sw_cons ?_
      walk_at "w"
      refine ew_dnew ?_
      walk_at "w"
      refine sw_cons ?_
      walk_at "w"
      refine sw_cons (s_while (fun m sl rs => ∃ V P h, Way ks f m V P h ∧ goR f m V P h = goR f (ks.length - s0.1.length) s0.1 [] k ∧ sl = [some (.sh (.dL (kvL f ks))), some (.rf 0), some (.rf 1), some (.sh (tK k)), some (.rf 2), some (.sh (tK h))] ∧ rs = [.dT (kvS V), .lst (s0.2.map ringD), .dT (kvI P 0)]) (ks.length - s0.1.length) ⟨s0.1, [], k, hway, rfl, rfl, rfl⟩ ?_)
      rintro m sl rs ⟨V, P', h, hw, hG, rfl, rfl⟩
      have hVl : V.length ≤ ks.length := nodup_lenG _ _ hw.nd hw.sub
      have hPl : P'.length ≤ V.length := by obtain ⟨U, hU⟩ := hw.suf; rw [hU, List.length_append]; omega
      by_cases hin : h ∈ V
      · refine tw_is (B := false) ?_ ⟨fun z => (nomatch z), fun _ => ?_⟩
        · walk_at "e"
          refine bv_ninT (kk := h) (bb := false) hu (.dT rfl) (tK_kd h) (by rw [kvS_val]; simp [hin]) ?_
          exact ⟨_, rfl, rfl, rfl⟩
        rw [goR_in hin] at hG
        have eone : oneR f leastK ks.length s0 k = (V, if h ∈ P' then s0.2 ++ [leastK (P'.drop (P'.idxOf h))] else s0.2) := by
          unfold oneR; rw [← hG]
        rw [eone] at eN
        have subP : ∀ v ∈ P', v ∈ ks := fun v hv => hw.sub v (by obtain ⟨U, hU⟩ := hw.suf; rw [hU]; exact List.mem_append_right _ hv)
        walk_at "w"
        refine sw_cons ?_
        walk_at "w"
        refine bv_inT (kk := h) hu (.dT rfl) (tK_kd h) kvI_isSome ?_
        refine ⟨_, rfl, fun hb => ?_, fun hb => ?_⟩
        · have hin2 : h ∈ P' := by simpa using hb
          rw [if_pos hin2] at eN
          have hix : P'.idxOf h < P'.length := List.idxOf_lt_length_iff.mpr hin2
          refine sw_cons ?_
          walk_at "w"
          refine ⟨.vw (.lst rfl), ?_⟩
          walk_at "w"
          refine cv_listT rfl (.dT rfl) ?_
          rw [kvI_keys]
          walk_at "w"
          refine xv_dT hu (.dT rfl) (tK_kd h) (kvI_in hin2) ?_
          rw [Nat.zero_add]
          walk_at "w"
          rw [cutD_from (by rw [List.length_map]; omega), ← List.map_drop]
          walk_at "w"
          have hdl : P'.drop (P'.idxOf h) ≠ [] := fun z => by have := congrArg List.length z; rw [List.length_drop] at this; simp at this; omega
          refine kc_F (P'.drop (P'.idxOf h)) (.cons .nil) ⟨hdl, ⟨b, r, fun v hv => hsh v (subP v (List.mem_of_mem_drop hv))⟩, fun v hv => hL.ok v (subP v (List.mem_of_mem_drop hv)), by rw [List.length_drop]; omega⟩ ?_
          walk_at "w"
          refine mv_append rfl (by rw [List.length_map]; omega) ?_
          refine sw_nil (sw_nil ?_)
          exact trimS_of 2 (sl := [some (.sh (.dL (kvL f ks))), some (.rf 0), some (.rf 1), some (.sh (tK k)), none, none]) ⟨_, rfl, by rw [eN, List.map_append]; rfl⟩ (.same (.same (.same (.same (.drop (.drop (.refl _))))))) (slLt_ok rfl)
        · have hout : h ∉ P' := by simpa using hb
          rw [if_neg hout] at eN
          refine sw_nil (sw_nil ?_)
          exact trimS_of 2 (sl := [some (.sh (.dL (kvL f ks))), some (.rf 0), some (.rf 1), some (.sh (tK k)), none, none]) ⟨_, rfl, by rw [eN]; rfl⟩ (.same (.same (.same (.same (.drop (.drop (.refl _))))))) (slLt_ok rfl)
      · refine tw_is (B := true) ?_ ⟨fun _ => ?_, fun z => (nomatch z)⟩
        · walk_at "e"
          refine bv_ninT (kk := h) (bb := true) hu (.dT rfl) (tK_kd h) (by rw [kvS_val]; simp [hin]) ?_
          exact ⟨_, rfl, rfl, rfl⟩
        have hnP : h ∉ P' := fun z => hin (by obtain ⟨U, hU⟩ := hw.suf; rw [hU]; exact List.mem_append_right _ z)
        have hvn : valD (kvS V) h = none := by
          have := kvS_val (k := h) (V := V)
          cases e : valD (kvS V) h with
          | none => rfl
          | some d => rw [e] at this; simp [hin] at this
        refine sw_cons (s_dput hu ?_)
        walk_at "e"
        refine ⟨_, _, _, h, _, rfl, rfl, by unfold kvS; rw [List.length_map]; omega, rfl, tK_kd h, rfl, ?_⟩
        rw [putD_new hvn]
        refine sw_cons (s_dput hu ?_)
        walk_at "e"
        refine ⟨_, _, _, h, _, rfl, rfl, by rw [kvI_len]; omega, rfl, tK_kd h, rfl, ?_⟩
        rw [putD_new (kvI_out hnP)]
        walk_at "e"
        refine xv_dL hu (.sh _) (tK_kd h) (kvL_get hw.hin) ?_
        obtain ⟨m', rfl, hw'⟩ := hw.more hL.cl hin
        refine sw_nil ⟨m', Nat.lt_succ_self _, V ++ [h], P' ++ [h], f h, hw', by rw [← goR_out hin]; exact hG, rfl, ?_⟩
        rw [kvI_snoc, Nat.zero_add, kvI_len]
        unfold kvS
        rw [List.map_append]
        rfl
    · rintro sl rs ⟨a, rfl, rfl⟩
      have fnd := (allR_fnd hL.cl leastK_turns ks.length (Nat.le_refl _)).1
      have hl2 : (List.map (fun p => tK p.1) (kvL f ks)).length = ks.length := by unfold kvL; rw [List.length_map, List.length_map]
      rw [hl2]
      have hq : (ringsK f ks).map ringD = sortP ((allR f leastK ks ks.length).2.map ringD) := by rw [sortR_eq]; rfl
      rw [hq] at q
      have hshR : ∀ c ∈ (allR f leastK ks ks.length).2, ShK (b :: r) c := fun c hc v hv => hsh v (fnd.met.sub v (fnd.sub c hc v hv))
      generalize allR f leastK ks ks.length = s0 at q hshR
      walk_at "e"
      refine cv_sortedP hu2 (.lst rfl) (plains_rings _) (alike_rings hshR) (sortable_rings _) (depth_rings _) ?_
      exact trim_of 0 q
end

-- needs: BOARD AFTER
/-! ## standings_led -/
section
set_option pp.maxSteps 500
variable {P : Program} {w : World} {K : PySem.W.Frag} {mg : Str → Option Value} {base : Heap} {C : Addr}
def plsS (m t : Nat) : List Da := (List.range t).map fun u => .tup [.int (u / m : Nat), .int (u % m : Nat)]
def stsS (m t : Nat) : List Da := (List.range t).map fun u => (sdN m u).da
abbrev ledS (bd : Bd) : Da := .dL (kvL (tkK bd) (stKs bd bd.all))
abbrev ctLedS (C : Addr) : Ct := ctF Bd.ok (fun bd => [bdD C bd]) ledS
theorem div_pl2 {m i j : Nat} (h : j < m) : (i * m + j) / m = i ∧ (i * m + j) % m = j := by
  constructor
  · rw [Nat.add_comm, Nat.add_mul_div_right _ _ (by omega), Nat.div_eq_of_lt h, Nat.zero_add]
  · rw [Nat.add_comm, Nat.add_mul_mod_self_right, Nat.mod_eq_of_lt h]
theorem ok_ledS {f : Addr} {fd : FuncData} (F : Fun K "standings_led" "standings_led" s_standings_led f fd) (D : FnC P w K mg base "after" ["board", "standing"] 2 (ctAfter C)) (M1 : MeC P w K mg base C "first" ["self"] 1 (ctFirst C)) (M2 : MeC P w K mg base C "second" ["self"] 1 (ctSecond C)) (ze : mg "len" = none) (zr : mg "range" = none) (gF : GlD K mg "FIRST" (.str "first")) (gS : GlD K mg "SECOND" (.str "second")) : FnOk P w K mg base CX0 3 f fd ["board"] (cSp K (ctLedS C)) := by
  have hsc := sc_standings_led
  have hnd := sc_standings_led.nd
  refine fnD F sc_standings_led (fun as rs Q h => ?_) fun cdv A outer s H E as rs Q hr h => ?_
  · obtain ⟨bd, rfl, _⟩ := h; rfl
  · obtain ⟨bd, rfl, rfl, hok, q⟩ := h
    have hu := hr.units
    have hok : bd.ok := hok
    have h1 := hok.a1
    have h2 := hok.a2
    have h3 := hok.b1
    have h4 := hok.b2
    have hab : bd.a.length * bd.b.length ≤ 200 * 200 := Nat.mul_le_mul h2 h4
    show SW _ (slots _ [.sh (bdD C bd)]) _ _ _
    refine sw_cons (s_setLc2 1 (fun k rs => rs = [.lst (plsS bd.b.length (k * bd.b.length))]) [("i", 3), ("j", 4)] [4] (fun s H C cl fp => lcg_name 3 hnd) (fun s H C cl fp => lcg_name 4 hnd) ?_ hnd)
    refine iw_range1 zr ?_
    walk_at "e"
    refine kc_F bd (.cons .nil) hok ?_
    walk_at "e"
    refine ⟨by omega, by omega, by show [Res.lst []] = [Res.lst (plsS bd.b.length (0 * bd.b.length))]; rw [Nat.zero_mul]; rfl, ?_, ?_⟩
    · rintro i d rs hd rfl
      obtain ⟨hi, rfl⟩ := rangeD0_get hd
      have hi3 : i < bd.a.length := by omega
      have him : i * bd.b.length + bd.b.length ≤ bd.a.length * bd.b.length := by
        rw [← Nat.succ_mul]; exact Nat.mul_le_mul_right _ hi3
      refine ⟨_, rfl, fun s H C' cl fp => pws_nil ⟨fun z => (nomatch z), fun _ s H C' cl fp => ?_⟩⟩
      refine iw_range1 zr ?_
      walk_at "e"
      refine kc_F bd (.cons .nil) hok ?_
      walk_at "e"
      refine ⟨by omega, by omega, fun j rs => rs = [.lst (plsS bd.b.length (i * bd.b.length + j))], rfl, ?_, ?_⟩
      · rintro j d rs hd rfl
        obtain ⟨hj, rfl⟩ := rangeD0_get hd
        have hj3 : j < bd.b.length := by omega
        obtain ⟨e1, e2⟩ := div_pl2 (i := i) hj3
        refine ⟨_, rfl, fun s H C' cl fp => pws_nil ⟨fun z => (nomatch z), fun _ s H C' cl fp => ?_⟩⟩
        show EW _ _ _ _ _
        walk_at "e"
        refine ⟨_, _, rfl, rfl, by unfold plsS; rw [List.length_map, List.length_range]; omega, ?_⟩
        show [Res.lst _] = [Res.lst _]
        rw [← Nat.add_assoc]
        unfold plsS
        rw [List.range_succ, List.map_append]
        simp only [List.map_cons, List.map_nil, e1, e2]
      · rintro rs rfl
        rw [rangeD_len, Int.toNat_natCast, Nat.succ_mul]
    · rintro rs rfl
      rw [rangeD_len, Int.toNat_natCast]
      refine sw_gh (gh_frz (k := 0) rfl) ?_
      refine sw_cons (s_setLc2 2 (fun k rs => rs = [.frz (.lst (plsS bd.b.length (bd.a.length * bd.b.length))), .lst (stsS bd.b.length (k * 2))]) [("i", 3), ("j", 4), ("last", 5)] [5] (fun s H C cl fp => lcg_tup (lcn_cons 3 (lcn_cons 4 lcn_nil hnd) hnd)) (fun s H C cl fp => lcg_name 5 hnd) ?_ hnd)
      refine iw_list (ew_frzd ?_)
      walk_at "e"
      refine ⟨_, _, rfl, rfl, _, rfl, rfl, ?_, ?_⟩
      · rintro k d rs hd rfl
        have hk : k < bd.a.length * bd.b.length := by
          have := (List.getElem?_eq_some_iff.mp hd).1
          unfold plsS at this; rw [List.length_map, List.length_range] at this; exact this
        have ed : d = .tup [.int (k / bd.b.length : Nat), .int (k % bd.b.length : Nat)] := by
          unfold plsS at hd
          rw [List.getElem?_map, List.getElem?_range hk] at hd
          exact (Option.some.inj hd).symm
        subst ed
        refine ⟨_, rfl, fun s H C' cl fp => pws_nil ⟨fun z => (nomatch z), fun _ s H C' cl fp => ?_⟩⟩
        refine iw_tup ?_
        walk_at "e"
        refine ⟨fun j rs => j ≤ 2 ∧ rs = [.frz (.lst (plsS bd.b.length (bd.a.length * bd.b.length))), .lst (stsS bd.b.length (k * 2 + j))], ⟨by omega, rfl⟩, ?_, ?_⟩
        · rintro j d rs hd ⟨_, rfl⟩
          have hj : j < 2 := (List.getElem?_eq_some_iff.mp hd).1
          have ed : d = .str (lastT (decide (j = 0))) := by
            match j, hj, hd with
            | 0, _, hd => cases hd; rfl
            | 1, _, hd => cases hd; rfl
          subst ed
          have e1 : (k * 2 + j) / 2 = k := by omega
          have e2 : (k * 2 + j) % 2 = j := by omega
          refine ⟨_, rfl, fun s H C' cl fp => pws_nil ⟨fun z => (nomatch z), fun _ s H C' cl fp => ?_⟩⟩
          show EW _ _ _ _ _
          walk_at "e"
          refine ⟨_, _, rfl, rfl, by unfold stsS; rw [List.length_map, List.length_range]; omega, by omega, ?_⟩
          show [Res.frz _, Res.lst _] = [Res.frz _, Res.lst _]
          rw [← Nat.add_assoc]
          unfold stsS
          rw [List.range_succ, List.map_append]
          simp only [List.map_cons, List.map_nil, sdN, e1, e2]
        · rintro rs ⟨_, rfl⟩
          show [Res.frz _, Res.lst (stsS _ (k * 2 + 2))] = _
          rw [Nat.succ_mul]
      · rintro rs rfl
        have e0 : (plsS bd.b.length (bd.a.length * bd.b.length)).length = bd.a.length * bd.b.length := by unfold plsS; rw [List.length_map, List.length_range]
        rw [e0]
        refine sw_gh (gh_frz (k := 1) rfl) ?_
        walk_at "w"
        refine sw_cons (s_ret (ew_lock ?_))
        refine ew_dcT hu (fun k rs => rs = [.frz (.lst (plsS bd.b.length (bd.a.length * bd.b.length))), .frz (.lst (stsS bd.b.length (bd.a.length * bd.b.length * 2))), .dT (kvL (tkK bd) (stKs bd k))]) [("standing", 6)] (fun s H C cl fp => lcg_name 6 hnd) ?_ hnd
        refine iw_list (ew_frzd ?_)
        walk_at "e"
        refine ⟨_, _, rfl, rfl, _, rfl, rfl, ?_, ?_⟩
        · rintro k d rs hd rfl
          have hk : k < bd.a.length * bd.b.length * 2 := by
            have := (List.getElem?_eq_some_iff.mp hd).1
            unfold stsS at this; rw [List.length_map, List.length_range] at this; exact this
          have ed : d = (sdN bd.b.length k).da := by
            unfold stsS at hd
            rw [List.getElem?_map, List.getElem?_range hk] at hd
            exact (Option.some.inj hd).symm
          subst ed
          have hs : (sdN bd.b.length k).ok bd := by
            refine ⟨?_, ?_⟩
            · show k / 2 / bd.b.length < _
              refine Nat.div_lt_of_lt_mul ?_
              rw [Nat.mul_comm]; omega
            · show k / 2 % bd.b.length < _
              exact Nat.mod_lt _ (by omega)
          refine ⟨_, rfl, fun s H C' cl fp => pws_nil ⟨fun z => (nomatch z), fun _ s H C' cl fp => ?_⟩⟩
          show EW _ _ _ _ _
          walk_at "e"
          refine ⟨_, (sdN bd.b.length k).key, rfl, rfl, fun s H C' cl fp => ?_⟩
          show EW _ _ _ _ _
          walk_at "e"
          refine kc_F (bd, sdN bd.b.length k) (.cons (.cons .nil)) ⟨hok, hs⟩ ?_
          walk_at "e"
          have hnew : valD (kvL (tkK bd) (stKs bd k)) (sdN bd.b.length k).key = none := valD_none (by
            unfold kvL stKs
            rw [List.map_map, List.map_map]
            intro z
            obtain ⟨u, hu2, eu⟩ := List.mem_map.mp z
            have := sdN_inj (Sd.key_inj (show (sdN bd.b.length u).key = (sdN bd.b.length k).key from eu))
            have := List.mem_range.mp hu2
            omega)
          refine ⟨_, _, rfl, rfl, by unfold kvL stKs; rw [List.length_map, List.length_map, List.length_range]; omega, ?_⟩
          rw [putD_new hnew]
          show [Res.frz _, Res.frz _, Res.dT _] = [Res.frz _, Res.frz _, Res.dT _]
          unfold kvL stKs
          rw [List.range_succ, List.map_append, List.map_append]
          simp only [List.map_cons, List.map_nil, tkK_key]
          rfl
        · rintro rs rfl
          have e : (stsS bd.b.length (bd.a.length * bd.b.length * 2)).length = bd.a.length * bd.b.length * 2 := by unfold stsS; rw [List.length_map, List.length_range]
          rw [e]
          refine ⟨_, _, rfl, rfl, ?_⟩
          exact trim_of 0 q
end

-- needs: BOARD AFTER STEPS RINGS LEDS
/-! ## trips, pace -/
section
set_option pp.maxSteps 500
variable {P : Program} {w : World} {K : PySem.W.Frag} {mg : Str → Option Value} {base : Heap} {C : Addr}
abbrev ctTrips (C : Addr) : Ct := ctF Bd.ok (fun bd => [bdD C bd]) (fun bd => .lst ((tripsK bd).map ringD))
theorem ok_trips {f : Addr} {fd : FuncData} (F : Fun K "trips" "trips" s_trips f fd) (D1 : FnC P w K mg base "standings_led" ["board"] 3 (ctLedS C)) (D2 : FnC P w K mg base "rings" ["leads"] 2 ctRings) : FnOk P w K mg base CX0 4 f fd ["board"] (cSp K (ctTrips C)) := by
  have hsc := sc_trips
  refine fnD F sc_trips (fun as rs Q h => ?_) fun cdv A outer s H E as rs Q hr h => ?_
  · obtain ⟨bd, rfl, _⟩ := h; rfl
  · obtain ⟨bd, rfl, rfl, hok, q⟩ := h
    have hok : bd.ok := hok
    show SW _ (slots _ [.sh (bdD C bd)]) _ _ _
    walk_at "e"
    refine kc_F bd (.cons .nil) hok ?_
    walk_at "e"
    refine kc_F (tkK bd, stKs bd bd.all) (.cons .nil) (leadS hok) ?_
    exact trim_of 0 q
abbrev ctPace (C : Addr) : Ct := ctF Bd.ok (fun bd => [bdD C bd]) Bd.pcD
theorem ok_pace {f : Addr} {fd : FuncData} (F : Fun K "pace" "pace" s_pace f fd) (D1 : FnC P w K mg base "trips" ["board"] 4 (ctTrips C)) (D2 : FnC P w K mg base "steps_on" ["board", "standings"] 3 (ctSteps C)) (M1 : MeC P w K mg base C "first" ["self"] 1 (ctFirst C)) (M2 : MeC P w K mg base C "second" ["self"] 1 (ctSecond C)) (ze : mg "len" = none) : FnOk P w K mg base CX0 5 f fd ["board"] (cSp K (ctPace C)) := by
  have hsc := sc_pace
  refine fnD F sc_pace (fun as rs Q h => ?_) fun cdv A outer s H E as rs Q hr h => ?_
  · obtain ⟨bd, rfl, _⟩ := h; rfl
  · obtain ⟨bd, rfl, rfl, hok, q⟩ := h
    have hok : bd.ok := hok
    have h1 := hok.a1
    have h2 := hok.a2
    have h3 := hok.b1
    have h4 := hok.b2
    have hsz := hok.size
    obtain ⟨c, L, hcL⟩ : ∃ c L, tripsK bd = c :: L := by
      cases h : tripsK bd with
      | nil => exact absurd h (trips_ne hok)
      | cons c L => exact ⟨c, L, rfl⟩
    obtain ⟨st, htr, ec⟩ := trip_of hok (c := c) (by rw [hcL]; exact List.mem_cons_self)
    obtain ⟨p1, p2, p3, p4, p5, _⟩ := htr.pc hok
    have hn : c.length ≤ bd.a.length * bd.b.length * 2 := by
      have := nodup_lenG _ _ ((tripsK_rgs hok).cyc c (by rw [hcL]; exact List.mem_cons_self)).nd ((tripsK_rgs hok).sub c (by rw [hcL]; exact List.mem_cons_self))
      unfold stKs at this
      rw [List.length_map, List.length_range] at this; exact this
    have q : Q (.sh (.tup [.int (bd.pcP : Nat), .int (bd.pcQ : Nat)])) [] := q
    generalize c.length = n at htr ec p1 p2 hn
    show SW _ (slots _ [.sh (bdD C bd)]) _ _ _
    walk_at "e"
    refine kc_F bd (.cons .nil) hok ?_
    walk_at "e"
    refine xv_seq (d := .lst ((bd.line st n).map Sd.da)) (.lst (.sh _)) (atI_nat (j := 0) (by rw [hcL, ec, List.map_cons, ring_da]; rfl)) ?_
    walk_at "e"
    refine kc_F (bd, bd.line st n) (.cons (.cons .nil)) ⟨hok, Bd.line_ok hok htr.ok, by rw [Bd.line_len]; omega⟩ ?_
    walk_at "e"
    refine xv_seq (d := .int (bd.F st n : Nat)) (.lst (.sh _)) ?_ ?_
    · rw [Bd.line_len, List.range_succ, List.map_append]
      have := atI_last ((List.range n).map fun k => Da.int (bd.cnt (bd.line st n) k : Nat)) (.int (bd.cnt (bd.line st n) n : Nat))
      rw [Bd.cnt_line (Nat.le_refl n)] at this
      simpa [Bd.cnt_line (Nat.le_refl n)] using this
    walk_at "e"
    refine kc_F bd (.cons .nil) hok ?_
    walk_at "e"
    refine kc_F bd (.cons .nil) hok ?_
    walk_at "e"
    rw [List.length_map, Bd.line_len]
    have e1 : ((bd.F st n : Nat) : Int) / (bd.a.length : Nat) = (bd.pcP : Nat) := by
      rw [p2, p3, ← Int.natCast_ediv, Nat.mul_div_cancel _ (by omega)]
    have e2 : ((n : Int) - (bd.F st n : Nat)) / (bd.b.length : Nat) = (bd.pcQ : Nat) := by
      rw [p2, p1, ← Int.natCast_sub p5, p4, ← Int.natCast_ediv, Nat.mul_div_cancel _ (by omega)]
    rw [e1, e2]
    exact trim_of 0 q
end

-- needs: BAGR
/-! ## the words of all places -/
section
set_option pp.maxSteps 600
variable {P : Program} {w : World} {K : PySem.W.Frag} {mg : Str → Option Value} {base : Heap} {C : Addr}
def rowT (bd : Bd) (i : Nat) : Da := .lst ((List.range bd.b.length).map fun j => Da.str (bd.wd i j))
def tabT (bd : Bd) : Da := .lst ((List.range bd.a.length).map (rowT bd))
abbrev ctTable : Ct := ctF Bd.ok (fun bd => [.str bd.a, .str bd.b, rowsD bd.rows]) tabT
theorem ok_table {f : Addr} {fd : FuncData} (F : Fun K "_law_table" "_law_table" s_law_table f fd) (zd : mg "dict" = none) : FnOk P w K mg base CX0 1 f fd ["first", "second", "rows"] (cSp K ctTable) := by
  have hsc := sc_law_table
  have hnd := sc_law_table.nd
  refine fnD F sc_law_table (fun as rs Q h => ?_) fun cdv A outer s H E as rs Q hr h => ?_
  · obtain ⟨bd, rfl, _⟩ := h; rfl
  · obtain ⟨bd, rfl, rfl, hok, q⟩ := h
    have hu := hr.units
    have hok : bd.ok := hok
    have hrows := hok.rows
    have hlen := hrows.len
    have q : Q (.sh (tabT bd)) [] := q
    show SW _ (slots _ [.sh (.str bd.a), .sh (.str bd.b), .sh (.lst (bd.rows.map rowD))]) _ _ _
    walk_at "d"
    walk_at "d"
    walk_at "d"
    refine aw_cons (ew_lc (fun k rs => rs = [.lst ((bd.rows.take k).map fun r => .tup [.tup [.str r.1, .str r.2.1], .str r.2.2])]) [("one", 4), ("other", 5), ("word", 6)] (fun s H C cl fp => lcg_tup (lcn_cons 4 (lcn_cons 5 (lcn_cons 6 lcn_nil hnd) hnd) hnd)) ?_ hnd)
    refine iw_list ?_
    walk_at "e"
    refine ⟨rfl, ?_, ?_⟩
    · rintro k d rs hd rfl
      rw [List.getElem?_map] at hd
      obtain ⟨r, hr', rfl⟩ := Option.map_eq_some_iff.mp hd
      have hkl : k < bd.rows.length := (List.getElem?_eq_some_iff.mp hr').1
      refine ⟨_, rfl, fun s H C cl fp => pws_nil ⟨fun z => (nomatch z), fun _ s H C cl fp => ?_⟩⟩
      show EW _ _ _ _ _
      walk_at "e"
      refine ⟨_, _, rfl, rfl, by rw [List.length_map, List.length_take]; omega, ?_⟩
      show [Res.lst _] = [Res.lst _]
      rw [List.take_add_one, hr', List.map_append]
      rfl
    · rintro rs rfl
      walk_at "d"
      refine cv_dictT rfl hu (.lst rfl) (prsD_rows _) (by rw [List.length_map, List.length_take]; omega) ?_
      rw [List.length_map, List.take_of_length_le (Nat.le_refl _), mergeD_nodup (by rw [List.nil_append]; exact kvR_nodup hrows.nd), List.nil_append]
      walk_at "e"
      generalize hz0 : List.map (fun r : RowT => Da.tup [Da.tup [Da.str r.1, Da.str r.2.1], Da.str r.2.2]) bd.rows = z0
      clear hz0
      have ha2 := hok.a2
      have hb2 := hok.b2
      refine ew_lc (fun k rs => ∃ fs : List Res, rs = .lst z0 :: .lst (((List.range bd.a.length).take k).map (rowT bd)) :: fs) [("one", 4)] (fun s H C cl fp => lcg_name 4 hnd) ?_ hnd
      refine iw_str ?_
      walk_at "e"
      refine ⟨⟨[], rfl⟩, ?_, ?_⟩
      · rintro i d rs hd ⟨fs, rfl⟩
        have hi : i < bd.a.length := by have := (List.getElem?_eq_some_iff.mp hd).1; rw [signsD_len] at this; exact this
        obtain ⟨c, hc, rfl⟩ : ∃ c, bd.a.cps[i]? = some c ∧ d = .str ⟨#[c]⟩ := by
          unfold signsD at hd
          rw [List.getElem?_map, Array.getElem?_toList] at hd
          obtain ⟨c, h1, h2⟩ := Option.map_eq_some_iff.mp hd
          exact ⟨c, h1, h2.symm⟩
        have hci : chr bd.a i = ⟨#[c]⟩ := by
          unfold chr; simp [hc]
        refine ⟨_, rfl, fun s H C cl fp => pws_nil ⟨fun z => (nomatch z), fun _ s H C cl fp => ?_⟩⟩
        show EW _ _ _ _ _
        generalize hrs : (Res.lst z0 :: .lst (((List.range bd.a.length).take i).map (rowT bd)) :: fs) = rs0
        refine ew_frzd (ew_gh (ew_lc (fun j rs => rs = rs0 ++ [.lst (((List.range bd.b.length).take j).map fun j => Da.str (bd.wd i j))]) [("other", 5)] (fun s H C cl fp => lcg_name 5 hnd) ?_ hnd (ok := blkOk_by (by rfl))))
        refine iw_str ?_
        walk_at "e"
        refine ⟨rfl, ?_, ?_⟩
        · rintro j d rs hd rfl
          have hj : j < bd.b.length := by have := (List.getElem?_eq_some_iff.mp hd).1; rw [signsD_len] at this; exact this
          obtain ⟨c', hc', rfl⟩ : ∃ c, bd.b.cps[j]? = some c ∧ d = .str ⟨#[c]⟩ := by
            unfold signsD at hd
            rw [List.getElem?_map, Array.getElem?_toList] at hd
            obtain ⟨c, h1, h2⟩ := Option.map_eq_some_iff.mp hd
            exact ⟨c, h1, h2.symm⟩
          have hcj : chr bd.b j = ⟨#[c']⟩ := by
            unfold chr; simp [hc']
          refine ⟨_, rfl, fun s H C cl fp => pws_nil ⟨fun z => (nomatch z), fun _ s H C cl fp => ?_⟩⟩
          show EW _ _ _ _ _
          walk_at "e"
          rw [look_kvR, show lookR bd.rows ⟨#[c]⟩ ⟨#[c']⟩ = bd.wd i j by unfold Bd.wd; rw [hci, hcj]]
          refine ⟨_, _, rfl, List.getElem?_concat_length, by rw [List.length_map, List.length_take, List.length_range]; omega, ?_⟩
          show (rs0 ++ [Res.lst _]).set rs0.length (Res.lst _) = rs0 ++ [Res.lst _]
          rw [List.set_append_right _ _ (Nat.le_refl _), Nat.sub_self, List.take_add_one, List.getElem?_range hj, List.map_append]
          rfl
        · rintro rs rfl
          rw [signsD_len, List.take_of_length_le (by rw [List.length_range]; exact Nat.le_refl _)]
          refine ⟨_, gh_frz (k := rs0.length) List.getElem?_concat_length, _, _, rfl, List.getElem?_set_self (by rw [List.length_append]; simp), ?_⟩
          rw [List.set_append_right _ _ (Nat.le_refl _), Nat.sub_self]
          subst hrs
          refine ⟨_, _, rfl, rfl, by rw [List.length_map, List.length_take, List.length_range]; omega, fs ++ [.frz (rowT bd i)], ?_⟩
          show Res.lst z0 :: Res.lst _ :: (fs ++ [_]) = _
          rw [List.take_add_one, List.getElem?_range hi, List.map_append]
          rfl
      · rintro rs ⟨fs, rfl⟩
        rw [signsD_len, List.take_of_length_le (by rw [List.length_range]; exact Nat.le_refl _)]
        exact trim_lst 0 rfl q
abbrev ctBStand : Ct := ctTA 3 3 Bd.ok (fun bd => [tabT bd]) (fun bd d => ∃ s : Sd, s.ok bd ∧ d = s.da)
theorem ok_bstand {f : Addr} {fd : FuncData} (F : Fun K "_law_standing" "_law_standing" s_law_standing f fd) (D : FnC P w K mg base "_law_draw" ["bag", "many"] 1 ctBDraw) (zl : mg "len" = none) : FnOk P w K mg base CX0 2 f fd ["bag", "table"] (cSp K ctBStand) := by
  have hsc := sc_law_standing
  refine fnD F sc_law_standing (fun as rs Q h => ?_) fun cdv A outer s H E as rs Q hr h => ?_
  · obtain ⟨_, n, rfl, _⟩ := h; rfl
  · obtain ⟨bd, n, rfl, rfl, hn, hok, q⟩ := h
    have hok : bd.ok := hok
    have a1 := hok.a1
    have a2 := hok.a2
    have b1 := hok.b1
    have b2 := hok.b2
    show SW _ (slots _ [.rf 0, .sh (tabT bd)]) _ _ _
    refine sw_cons ?_
    walk_at "w"
    rw [List.length_map, List.length_range]
    refine kc_bdraw rfl (by omega) (by omega) (by omega) fun r0 h1 h2 => ?_
    walk_at "w"
    refine xv_seq (d := rowT bd 0) (.lst (.sh _)) (atI_nat (j := 0) (by rw [List.getElem?_map, List.getElem?_range (by omega)]; rfl)) ?_
    walk_at "w"
    rw [List.length_map, List.length_range]
    refine kc_bdraw rfl (by omega) (by omega) (by omega) fun r1 h3 h4 => ?_
    walk_at "w"
    refine kc_bdraw rfl (by omega) (by omega) (by omega) fun r2 h5 h6 => ?_
    obtain ⟨dl, hdl, hml⟩ := pickI (ds := [Da.str "first", .str "second"]) h5 h6
    obtain ⟨fl, rfl⟩ : ∃ f : Bool, dl = .str (lastT f) := by
      simp only [List.mem_cons, List.not_mem_nil, or_false] at hml
      rcases hml with e | e
      · exact ⟨true, e⟩
      · exact ⟨false, e⟩
    refine xv_seq (.tup (.sh _)) hdl ?_
    walk_at "w"
    obtain ⟨i, rfl⟩ := Int.eq_ofNat_of_zero_le h1
    obtain ⟨j, rfl⟩ := Int.eq_ofNat_of_zero_le h3
    exact trim_of 1 (q _ ⟨⟨i, j, fl⟩, ⟨by show i < _; omega, by show j < _; omega⟩, rfl⟩)
end

-- needs: BTABLE BOARD GOF TRIPS EQ TURNED
/-! ## the law -/
section
set_option pp.maxSteps 500
variable {P : Program} {w : World} {K : PySem.W.Frag} {mg : Str → Option Value} {base : Heap} {C : Addr}
theorem swR2 {r : RowT} (h : isW r.2.2) : swapR (swapR r) = r := by
  obtain ⟨a, b, c⟩ := r
  have : owS (owS c) = c := by
    have h : c = "first" ∨ c = "second" ∨ c = "other" := h
    rcases h with rfl | rfl | rfl <;> decide +kernel
  show (a, b, owS (owS c)) = (a, b, c)
  rw [this]
theorem turn2 {bd : Bd} (h : bd.ok) : eqB (turnB (turnB bd)) bd = true := by
  refine eqB_perm (bd := turnB (turnB bd)) h.rows.nd ?_
  refine (turnB_perm (turnB bd)).trans ?_
  have p1 : ((turnB bd).rows.map swapR).Perm ((bd.rows.map swapR).map swapR) := (turnB_perm bd).map swapR
  refine p1.trans ?_
  rw [List.map_map]
  have : bd.rows.map (swapR ∘ swapR) = bd.rows.map id := List.map_congr_left fun r hr => swR2 (h.rows.ws r hr)
  rw [this, List.map_id]
theorem turn_sam {bd : Bd} (h : bd.ok) : (turnB bd).Sam bd.swap := Bd.Sam.perm h.rows.swap.nd (turnB_perm bd)
theorem tx_let {bd : Bd} (h1 : lett bd.a) (h2 : lett bd.b) : txB bd := by
  have : ∀ x : Str, lett x → PySem.PyData.strOk x = true := fun x h => by
    unfold PySem.PyData.strOk
    rw [← Array.all_toList, List.all_eq_true]
    intro c hc
    have := h c hc
    have : c < 1114112 := by omega
    simpa using this
  show (PySem.PyData.strOk bd.a && (PySem.PyData.strOk bd.b && true)) = true
  rw [this _ h1, this _ h2]; rfl
abbrev ctEx : Ct := ctF (fun _ : Sd => True) (fun s => [s.da]) (fun s => s.swap.da)
theorem ok_ex {f : Addr} {fd : FuncData} (F : Fun K "_law_exchanged" "_law_exchanged" s_law_exchanged f fd) (zi : mg "int" = none) : FnOk P w K mg base CX0 1 f fd ["standing"] (cSp K ctEx) := by
  have hsc := sc_law_exchanged
  refine fnD F sc_law_exchanged (fun as rs Q h => ?_) fun cdv A outer s H E as rs Q hr h => ?_
  · obtain ⟨p, rfl, _⟩ := h; rfl
  · obtain ⟨st, rfl, rfl, _, q⟩ := h
    have q : Q (.sh st.swap.da) [] := q
    show SW _ (slots _ [.sh st.da]) _ _ _
    refine sw_cons ?_
    walk_at "w"
    have e : atI [Da.str "first", .str "second"] (if decide (lastT st.f = "first") = true then 1 else 0) = some (.str (lastT (!st.f))) := by
      cases st.f
      · exact atI_nat (j := 0) rfl
      · exact atI_nat (j := 1) rfl
    refine xv_seq (.tup (.sh _)) e ?_
    walk_at "w"
    exact trim_of 0 q
theorem ok_law {f : Addr} {fd : FuncData} (F : Fun K "law" "law" s_law f fd) (Dd : FnC P w K mg base "_law_bag" ["script"] 1 ctBag) (Dk : FnC P w K mg base "_law_draw" ["bag", "many"] 1 ctBDraw) (D3 : FnC P w K mg base "_law_board" ["bag", "words"] 3 ctBBoard) (Dt : FnC P w K mg base "_law_table" ["first", "second", "rows"] 1 ctTable) (Ds : FnC P w K mg base "_law_standing" ["bag", "table"] 2 ctBStand) (De : FnC P w K mg base "_law_exchanged" ["standing"] 1 ctEx) (Dp : FnC P w K mg base "pace" ["board"] 5 (ctPace C)) (Dr : FnC P w K mg base "trips" ["board"] 4 (ctTrips C)) (Du : FnC P w K mg base "turned" ["board"] 4 (ctTurn C)) (Kt : KwF P w K mg base "turned" ["board"] ["board"] [0] 4 (ctTurn C)) (Eq : EqC P w K mg base C 1 (ctEqB C)) (M1 : MeC P w K mg base C "first" ["self"] 1 (ctFirst C)) (M2 : MeC P w K mg base C "second" ["self"] 1 (ctSecond C)) (Mg : MeC P w K mg base C "go" ["self", "standing", "ticks"] 4 (ctGoF C)) (Mk : MkC P w K mg base C "Board" ["self", "first", "second", "rule"] 2 Bd.ok bdA bdF)
    (zr : mg "range" = none) (zl : mg "len" = none) (zm : mg "min" = none) : FnOk P w K mg base CX0 6 f fd ["script"] (cSp K ctLaw) := by
  have hsc := sc_law
  have hnd := sc_law.nd
  refine fnD F sc_law (fun as rs Q h => ?_) fun cdv A outer s H E as rs Q hr h => ?_
  · obtain ⟨ns, rfl, _⟩ := h; rfl
  · obtain ⟨ns, rfl, rfl, hn, q⟩ := h
    have hu := hr.units
    have hu2 := un2_of hr
    walk_at "e"
    refine .pure (.cons .nil) ⟨ns, rfl, rfl, hn, rfl, ?_⟩
    refine sw_cons (s_for (fun k sl rs => sl = some (.sh (.lstK (ns.map Da.int))) :: some (.rf 1) :: List.replicate 16 none ∧ rs = [.off, .tray 3 (300 * k)]) ?_)
    refine iw_range1 zr ?_
    walk_at "e"
    refine cv_len .lstK ?_
    walk_at "e"
    rw [List.length_map]
    have hlap : 0 ≤ (1 + if (ns.length : Int) < 3 then (ns.length : Int) else 3) ∧ (1 + if (ns.length : Int) < 3 then (ns.length : Int) else 3) ≤ 4 := by split <;> omega
    generalize (1 + if (ns.length : Int) < 3 then (ns.length : Int) else 3) = laps at hlap ⊢
    refine ⟨by omega, by omega, ⟨rfl, rfl⟩, ?_, ?_⟩
    · rintro k d sl rs hk ⟨rfl, rfl⟩
      obtain ⟨hk2, rfl⟩ := rangeD0_get hk
      have hk3 : k < 4 := by omega
      walk_at "gn"
      refine sw_trim ?_
      walk_at "w"
      refine sw_cons ?_
      walk_at "w"
      refine kc_T (ds := [wordsD]) rfl (.cons .nil) (by omega) rfl ?_
      rintro _ ⟨x, y, rows, rfl, hx1, hx2, hx, hy1, hy2, hy, hrows⟩
      have hok : Bd.ok ⟨x, y, rows⟩ := ⟨hx1, by show x.length ≤ _; omega, hy1, by show y.length ≤ _; omega, hrows.ok (by omega)⟩
      generalize hbd : (⟨x, y, rows⟩ : Bd) = bd at hok
      have ea : bd.a = x := by rw [← hbd]
      have eb : bd.b = y := by rw [← hbd]
      have er : bd.rows = rows := by rw [← hbd]
      subst ea eb er
      clear hbd
      have htx : txB bd := tx_let hx hy
      have htx2 : txB (turnB bd) := tx_let hy hx
      have hok2 := turnB_ok hok
      have hlen := hok.rows.len
      walk_at "w"
      refine sw_cons (s_par 6 7 ?_ hnd)
      walk_at "w"
      refine ew_make Mk (hr.mono (by decide)) ?_
      walk_at "w"
      refine ⟨bd, .cons (.cons (.cons .nil)), hok, ?_⟩
      walk_at "w"
      refine kc_F bd (.cons (.cons (.cons .nil))) hok ?_
      walk_at "w"
      refine ⟨_, _, rfl, ?_⟩
      refine sw_cons ?_
      walk_at "w"
      refine kc_F bd (.cons .nil) hok ?_
      refine sw_cons ?_
      walk_at "w"
      refine ew_disp ?_
      walk_at "w"
      refine ⟨by decide +kernel, .sh (kvs := [(.inr "first", .str "second"), (.inr "second", .str "first"), (.inr "other", .str "other")]) rfl ?_⟩
      refine sw_cons ?_
      walk_at "w"
      refine ew_make Mk (hr.mono (by decide)) ?_
      walk_at "w"
      refine ew_frzd (ew_gh (ew_lc (fun k2 rs => rs = [.off, .tray 3 (300 * k + 220), .off, .lst ((bd.rows.take k2).map fun r => rowD (swapR r))]) [("one", 15), ("two", 16), ("word", 17)] (fun s H C cl fp => lcg_tup (lcn_cons 15 (lcn_cons 16 (lcn_cons 17 lcn_nil hnd) hnd) hnd)) ?_ hnd))
      refine iw_list ?_
      walk_at "w"
      refine ⟨rfl, ?_, ?_⟩
      · rintro j d rs hd rfl
        rw [List.getElem?_map] at hd
        obtain ⟨r, hr', rfl⟩ := Option.map_eq_some_iff.mp hd
        have hw := hok.rows.ws r (List.mem_of_getElem? hr')
        have hkl : j < bd.rows.length := (List.getElem?_eq_some_iff.mp hr').1
        refine ⟨_, rfl, fun s H C' cl fp => pws_nil ⟨fun z => (nomatch z), fun _ s H C' cl fp => ?_⟩⟩
        show EW _ _ _ _ _
        walk_at "w"
        refine xv_dK (kk := .inr r.2.2) (d := .str (owS r.2.2)) hu (.sh _) rfl ?_ ?_
        · rcases hw with e | e | e <;> rw [e] <;> rfl
        walk_at "w"
        refine ⟨_, _, rfl, rfl, by rw [List.length_map, List.length_take]; omega, ?_⟩
        show [Res.off, .tray 3 (300 * k + 220), .off, Res.lst _] = [Res.off, .tray 3 (300 * k + 220), .off, Res.lst _]
        rw [List.take_add_one, hr', List.map_append]
        rfl
      rintro rs rfl
      rw [List.length_map, List.take_of_length_le (Nat.le_refl _)]
      have hrw : (bd.rows.map fun r => rowD (swapR r)) = (bd.rows.map swapR).map rowD := by rw [List.map_map]; rfl
      rw [hrw]
      refine ⟨_, gh_frz (k := 3) rfl, 3, _, rfl, rfl, ?_⟩
      walk_at "w"
      have e1 : eqB (turnB bd) bd.swap = true := eqB_perm (bd := turnB bd) hok.rows.swap.nd (turnB_perm bd)
      refine ⟨bd.swap, .cons (.cons (.cons .nil)), hok.swap, ?_⟩
      refine bv_neO Eq (hr.mono (by decide)) .sh .sh ?_
      refine kc_F (turnB bd, bd.swap) (.cons (.cons .nil)) ⟨⟨hok2, htx2⟩, hok.swap, htx2⟩ ?_
      refine ⟨_, rfl, ?_⟩
      rw [e1]
      refine ⟨_, rfl, fun z => (nomatch z), fun _ => sw_nil ?_⟩
      refine sw_cons (s_if (tw_is (B := false) (tw_tb (tb_or ?_)) ⟨fun z => (nomatch z), fun _ => sw_nil ?_⟩))
      · walk_at "w"
        refine ew_ck Kt (hr.mono (by decide)) (kw_cons ?_)
        walk_at "w"
        refine kw_nil ⟨rfl, kc_F (turnB bd) (.cons .nil) hok2 ?_⟩
        walk_at "w"
        refine bv_neO Eq (hr.mono (by decide)) .sh .sh ?_
        refine kc_F (turnB (turnB bd), bd) (.cons (.cons .nil)) ⟨⟨turnB_ok hok2, htx⟩, hok, htx⟩ ?_
        refine ⟨_, rfl, ?_⟩
        rw [turn2 hok]
        refine ⟨_, rfl, fun z => (nomatch z), fun _ => tb_or ?_⟩
        walk_at "w"
        refine kc_F (turnB bd) (.cons .nil) hok2 ?_
        walk_at "w"
        refine ⟨fun z => absurd z (by show ¬ (!decide (bd.b = bd.b)) = true; simp), fun _ => tb_or1 ?_⟩
        walk_at "w"
        refine kc_F (turnB bd) (.cons .nil) hok2 ?_
        walk_at "w"
        refine ⟨by show (!decide (bd.a = bd.a)) = false; simp, rfl⟩
      refine sw_cons ?_
      walk_at "w"
      refine kc_F bd (.cons .nil) hok ?_
      have pc1 : (turnB bd).pcP = bd.pcQ := ((turn_sam hok).pc hok2 hok.swap).1.trans (Bd.swap_pc hok).1
      have pc2 : (turnB bd).pcQ = bd.pcP := ((turn_sam hok).pc hok2 hok.swap).2.trans (Bd.swap_pc hok).2
      have many : (tripsK (turnB bd)).length = (tripsK bd).length := ((turn_sam hok).many hok2 hok.swap).trans (Bd.swap_many hok)
      refine sw_cons (s_if (tw_is (B := false) (tw_tb (tb_or ?_)) ⟨fun z => (nomatch z), fun _ => sw_nil ?_⟩))
      · walk_at "w"
        refine kc_F (turnB bd) (.cons .nil) hok2 ?_
        walk_at "w"
        have epc : (turnB bd).pcD = .tup [.int (bd.pcQ : Nat), .int (bd.pcP : Nat)] := by
          show Da.tup [.int ((turnB bd).pcP : Nat), .int ((turnB bd).pcQ : Nat)] = _
          rw [pc1, pc2]
        rw [epc]
        refine bv_neF (n := 1) hu (.sh _) (.sh _) rfl ?_
        refine ⟨_, rfl, fun z => (nomatch z), fun _ => tb_or1 ?_⟩
        walk_at "w"
        refine kc_F (turnB bd) (.cons .nil) hok2 ?_
        walk_at "w"
        refine kc_F bd (.cons .nil) hok ?_
        walk_at "w"
        rw [List.length_map, List.length_map, many]
        refine ⟨by simp, rfl⟩
      refine sw_cons (s_par 11 12 ?_ hnd)
      walk_at "w"
      refine kc_TA bd rfl (.cons .nil) (by omega) hok ?_
      rintro _ ⟨st, hs, rfl⟩
      walk_at "w"
      refine kc_bdraw rfl (by omega) (by omega) (by omega) fun r0 h1 h2 => ?_
      obtain ⟨dm, hdm, hmm⟩ := pickI (ds := [Da.int 30, .int 10000000000000000000000000000000000000000]) h1 (by simpa using h2)
      obtain ⟨m, rfl, hm1, hm2⟩ : ∃ m : Int, dm = .int m ∧ 1 ≤ m ∧ m ≤ 10000000000000000000000000000000000000000 := by
        simp only [List.mem_cons, List.not_mem_nil, or_false] at hmm
        rcases hmm with e | e <;> subst e
        · exact ⟨_, rfl, by omega, by omega⟩
        · exact ⟨_, rfl, by omega, by omega⟩
      refine xv_seq (.tup (.sh _)) hdm ?_
      walk_at "w"
      refine kc_bdraw rfl (by omega) (by omega) (by omega) fun r1 h3 h4 => ?_
      obtain ⟨t, rfl⟩ := Int.eq_ofNat_of_zero_le h3
      walk_at "w"
      refine ⟨_, _, rfl, ?_⟩
      refine sw_cons (s_par 13 14 ?_ hnd)
      walk_at "w"
      refine kc_F (bd, st, t) (.cons (.cons (.cons .nil))) ⟨hok, hs⟩ ?_
      walk_at "w"
      refine kc_F st (.cons .nil) trivial ?_
      walk_at "w"
      refine kc_F (turnB bd, st.swap, t) (.cons (.cons (.cons .nil))) ⟨hok2, hs.swap⟩ ?_
      have ego : gonD (turnB bd) st.swap t = exD bd st t := by
        rw [← exD_eq hok]
        obtain ⟨g1, g2⟩ := (turn_sam hok).go hok2 (s := st.swap) hs.swap t
        show Da.tup [((turnB bd).go st.swap t).da, _, _] = Da.tup [(bd.swap.go st.swap t).da, _, _]
        rw [g1, g2]
      rw [ego]
      walk_at "w"
      refine ⟨_, _, rfl, ?_⟩
      refine sw_cons ?_
      walk_at "w"
      refine kc_F (bd.go st t) (.cons .nil) trivial ?_
      walk_at "w"
      refine bv_neF (n := 2) hu (.sh (exD bd st t)) (.sh (exD bd st t)) (by
        have e : ∀ f : Bool, PySem.PyData.strOk (lastT f) = true := lastT_ok
        simp [okD, okDs, exD, Sd.da, e]) ?_
      refine ⟨_, rfl, fun z => (nomatch z), fun _ => sw_nil ?_⟩
      refine sw_gh (gh_tray3 (k := 1) (m' := 300 * (k + 1)) rfl (by omega)) (sw_nil ?_)
      exact trimS_of 2 (sl := some (.sh (.lstK (ns.map Da.int))) :: some (.rf 1) :: List.replicate 16 none) ⟨rfl, rfl⟩ sle_k2 lt_k2
    · rintro sl rs ⟨rfl, rfl⟩
      walk_at "e"
      exact trim_of 0 q
end

theorem all_mk {l : PySem.W.OpenLaw} {w : World} {K : PySem.W.Frag} {h : Heap} {mg : Str → Option Value} {fa f_words_of f_need_place f_need_standing f_after f_road f_steps_on f_turned f_from_least f_rings f_standings_led f_trips f_pace f_law_bag f_law_draw f_law_round f_law_rule f_law_board f_law_table f_law_standing f_law_exchanged f_law f_Board_init f_Board_eq f_Board_first f_Board_second f_Board_rule f_Board_word_at f_Board_go K_Board A_WORDS A_TURNED : Addr} (X : K.In h) (G : h.Ns mainGlobals mg) (hfa : mg "law" = some (.ref fa))
    (a_Board : PySem.W.nsIn K mainGlobals "Board" = some (some (.ref K_Board))) (pg_Board : PySem.W.plainGet K K_Board Str.empty = true) (hd_Board : PySem.W.hasDictIn K K_Board = true) (po_Board : PySem.W.plainOver K K_Board = true) (sa_Board : PySem.W.findIn K (.ref K_Board) "__setattr__" = some (some (.builtin "object.__setattr__"))) (mk_Board : PySem.W.makesIn K K_Board = true) (kc_Board : PySem.W.keepIn K (.ref K_Board) = true)
    (n_Board_rounds_held : PySem.W.findIn K (.ref K_Board) "rounds_held" = some none)
    (n_Board_words_held : PySem.W.findIn K (.ref K_Board) "words_held" = some none)
    {od_words_of an_words_of : Option Addr} {sl_words_of : Array (Option Value)} {oc_words_of kV_words_of dc_words_of pm_words_of cd_words_of ct_words_of : Value}
    (a_words_of : PySem.W.nsIn K mainGlobals "words_of" = some (some (.ref f_words_of)))
    (l_words_of : K.lookup f_words_of = some ⟨oc_words_of, od_words_of, .func (PySem.W.fnOf "words_of" "words_of" (defArgs s_words_of) (defBody s_words_of) (defScope s_words_of) .none kV_words_of dc_words_of pm_words_of an_words_of cd_words_of ct_words_of), sl_words_of⟩) (c_words_of : PySem.W.codeIn K cd_words_of "words_of" = true) (k_words_of : PySem.W.keepIn K (.ref f_words_of) = true)
    {od_need_place an_need_place : Option Addr} {sl_need_place : Array (Option Value)} {oc_need_place kV_need_place dc_need_place pm_need_place cd_need_place ct_need_place : Value}
    (a_need_place : PySem.W.nsIn K mainGlobals "need_place" = some (some (.ref f_need_place)))
    (l_need_place : K.lookup f_need_place = some ⟨oc_need_place, od_need_place, .func (PySem.W.fnOf "need_place" "need_place" (defArgs s_need_place) (defBody s_need_place) (defScope s_need_place) .none kV_need_place dc_need_place pm_need_place an_need_place cd_need_place ct_need_place), sl_need_place⟩) (c_need_place : PySem.W.codeIn K cd_need_place "need_place" = true) (k_need_place : PySem.W.keepIn K (.ref f_need_place) = true)
    {od_need_standing an_need_standing : Option Addr} {sl_need_standing : Array (Option Value)} {oc_need_standing kV_need_standing dc_need_standing pm_need_standing cd_need_standing ct_need_standing : Value}
    (a_need_standing : PySem.W.nsIn K mainGlobals "need_standing" = some (some (.ref f_need_standing)))
    (l_need_standing : K.lookup f_need_standing = some ⟨oc_need_standing, od_need_standing, .func (PySem.W.fnOf "need_standing" "need_standing" (defArgs s_need_standing) (defBody s_need_standing) (defScope s_need_standing) .none kV_need_standing dc_need_standing pm_need_standing an_need_standing cd_need_standing ct_need_standing), sl_need_standing⟩) (c_need_standing : PySem.W.codeIn K cd_need_standing "need_standing" = true) (k_need_standing : PySem.W.keepIn K (.ref f_need_standing) = true)
    {od_after an_after : Option Addr} {sl_after : Array (Option Value)} {oc_after kV_after dc_after pm_after cd_after ct_after : Value}
    (a_after : PySem.W.nsIn K mainGlobals "after" = some (some (.ref f_after)))
    (l_after : K.lookup f_after = some ⟨oc_after, od_after, .func (PySem.W.fnOf "after" "after" (defArgs s_after) (defBody s_after) (defScope s_after) .none kV_after dc_after pm_after an_after cd_after ct_after), sl_after⟩) (c_after : PySem.W.codeIn K cd_after "after" = true) (k_after : PySem.W.keepIn K (.ref f_after) = true)
    {od_road an_road : Option Addr} {sl_road : Array (Option Value)} {oc_road kV_road dc_road pm_road cd_road ct_road : Value}
    (a_road : PySem.W.nsIn K mainGlobals "road" = some (some (.ref f_road)))
    (l_road : K.lookup f_road = some ⟨oc_road, od_road, .func (PySem.W.fnOf "road" "road" (defArgs s_road) (defBody s_road) (defScope s_road) .none kV_road dc_road pm_road an_road cd_road ct_road), sl_road⟩) (c_road : PySem.W.codeIn K cd_road "road" = true) (k_road : PySem.W.keepIn K (.ref f_road) = true)
    {od_steps_on an_steps_on : Option Addr} {sl_steps_on : Array (Option Value)} {oc_steps_on kV_steps_on dc_steps_on pm_steps_on cd_steps_on ct_steps_on : Value}
    (a_steps_on : PySem.W.nsIn K mainGlobals "steps_on" = some (some (.ref f_steps_on)))
    (l_steps_on : K.lookup f_steps_on = some ⟨oc_steps_on, od_steps_on, .func (PySem.W.fnOf "steps_on" "steps_on" (defArgs s_steps_on) (defBody s_steps_on) (defScope s_steps_on) .none kV_steps_on dc_steps_on pm_steps_on an_steps_on cd_steps_on ct_steps_on), sl_steps_on⟩) (c_steps_on : PySem.W.codeIn K cd_steps_on "steps_on" = true) (k_steps_on : PySem.W.keepIn K (.ref f_steps_on) = true)
    {od_turned an_turned : Option Addr} {sl_turned : Array (Option Value)} {oc_turned kV_turned dc_turned pm_turned cd_turned ct_turned : Value}
    (a_turned : PySem.W.nsIn K mainGlobals "turned" = some (some (.ref f_turned)))
    (l_turned : K.lookup f_turned = some ⟨oc_turned, od_turned, .func (PySem.W.fnOf "turned" "turned" (defArgs s_turned) (defBody s_turned) (defScope s_turned) .none kV_turned dc_turned pm_turned an_turned cd_turned ct_turned), sl_turned⟩) (c_turned : PySem.W.codeIn K cd_turned "turned" = true) (k_turned : PySem.W.keepIn K (.ref f_turned) = true)
    {od_from_least an_from_least : Option Addr} {sl_from_least : Array (Option Value)} {oc_from_least kV_from_least dc_from_least pm_from_least cd_from_least ct_from_least : Value}
    (a_from_least : PySem.W.nsIn K mainGlobals "from_least" = some (some (.ref f_from_least)))
    (l_from_least : K.lookup f_from_least = some ⟨oc_from_least, od_from_least, .func (PySem.W.fnOf "from_least" "from_least" (defArgs s_from_least) (defBody s_from_least) (defScope s_from_least) .none kV_from_least dc_from_least pm_from_least an_from_least cd_from_least ct_from_least), sl_from_least⟩) (c_from_least : PySem.W.codeIn K cd_from_least "from_least" = true) (k_from_least : PySem.W.keepIn K (.ref f_from_least) = true)
    {od_rings an_rings : Option Addr} {sl_rings : Array (Option Value)} {oc_rings kV_rings dc_rings pm_rings cd_rings ct_rings : Value}
    (a_rings : PySem.W.nsIn K mainGlobals "rings" = some (some (.ref f_rings)))
    (l_rings : K.lookup f_rings = some ⟨oc_rings, od_rings, .func (PySem.W.fnOf "rings" "rings" (defArgs s_rings) (defBody s_rings) (defScope s_rings) .none kV_rings dc_rings pm_rings an_rings cd_rings ct_rings), sl_rings⟩) (c_rings : PySem.W.codeIn K cd_rings "rings" = true) (k_rings : PySem.W.keepIn K (.ref f_rings) = true)
    {od_standings_led an_standings_led : Option Addr} {sl_standings_led : Array (Option Value)} {oc_standings_led kV_standings_led dc_standings_led pm_standings_led cd_standings_led ct_standings_led : Value}
    (a_standings_led : PySem.W.nsIn K mainGlobals "standings_led" = some (some (.ref f_standings_led)))
    (l_standings_led : K.lookup f_standings_led = some ⟨oc_standings_led, od_standings_led, .func (PySem.W.fnOf "standings_led" "standings_led" (defArgs s_standings_led) (defBody s_standings_led) (defScope s_standings_led) .none kV_standings_led dc_standings_led pm_standings_led an_standings_led cd_standings_led ct_standings_led), sl_standings_led⟩) (c_standings_led : PySem.W.codeIn K cd_standings_led "standings_led" = true) (k_standings_led : PySem.W.keepIn K (.ref f_standings_led) = true)
    {od_trips an_trips : Option Addr} {sl_trips : Array (Option Value)} {oc_trips kV_trips dc_trips pm_trips cd_trips ct_trips : Value}
    (a_trips : PySem.W.nsIn K mainGlobals "trips" = some (some (.ref f_trips)))
    (l_trips : K.lookup f_trips = some ⟨oc_trips, od_trips, .func (PySem.W.fnOf "trips" "trips" (defArgs s_trips) (defBody s_trips) (defScope s_trips) .none kV_trips dc_trips pm_trips an_trips cd_trips ct_trips), sl_trips⟩) (c_trips : PySem.W.codeIn K cd_trips "trips" = true) (k_trips : PySem.W.keepIn K (.ref f_trips) = true)
    {od_pace an_pace : Option Addr} {sl_pace : Array (Option Value)} {oc_pace kV_pace dc_pace pm_pace cd_pace ct_pace : Value}
    (a_pace : PySem.W.nsIn K mainGlobals "pace" = some (some (.ref f_pace)))
    (l_pace : K.lookup f_pace = some ⟨oc_pace, od_pace, .func (PySem.W.fnOf "pace" "pace" (defArgs s_pace) (defBody s_pace) (defScope s_pace) .none kV_pace dc_pace pm_pace an_pace cd_pace ct_pace), sl_pace⟩) (c_pace : PySem.W.codeIn K cd_pace "pace" = true) (k_pace : PySem.W.keepIn K (.ref f_pace) = true)
    {od_law_bag an_law_bag : Option Addr} {sl_law_bag : Array (Option Value)} {oc_law_bag kV_law_bag dc_law_bag pm_law_bag cd_law_bag ct_law_bag : Value}
    (a_law_bag : PySem.W.nsIn K mainGlobals "_law_bag" = some (some (.ref f_law_bag)))
    (l_law_bag : K.lookup f_law_bag = some ⟨oc_law_bag, od_law_bag, .func (PySem.W.fnOf "_law_bag" "_law_bag" (defArgs s_law_bag) (defBody s_law_bag) (defScope s_law_bag) .none kV_law_bag dc_law_bag pm_law_bag an_law_bag cd_law_bag ct_law_bag), sl_law_bag⟩) (c_law_bag : PySem.W.codeIn K cd_law_bag "_law_bag" = true) (k_law_bag : PySem.W.keepIn K (.ref f_law_bag) = true)
    {od_law_draw an_law_draw : Option Addr} {sl_law_draw : Array (Option Value)} {oc_law_draw kV_law_draw dc_law_draw pm_law_draw cd_law_draw ct_law_draw : Value}
    (a_law_draw : PySem.W.nsIn K mainGlobals "_law_draw" = some (some (.ref f_law_draw)))
    (l_law_draw : K.lookup f_law_draw = some ⟨oc_law_draw, od_law_draw, .func (PySem.W.fnOf "_law_draw" "_law_draw" (defArgs s_law_draw) (defBody s_law_draw) (defScope s_law_draw) .none kV_law_draw dc_law_draw pm_law_draw an_law_draw cd_law_draw ct_law_draw), sl_law_draw⟩) (c_law_draw : PySem.W.codeIn K cd_law_draw "_law_draw" = true) (k_law_draw : PySem.W.keepIn K (.ref f_law_draw) = true)
    {od_law_round an_law_round : Option Addr} {sl_law_round : Array (Option Value)} {oc_law_round kV_law_round dc_law_round pm_law_round cd_law_round ct_law_round : Value}
    (a_law_round : PySem.W.nsIn K mainGlobals "_law_round" = some (some (.ref f_law_round)))
    (l_law_round : K.lookup f_law_round = some ⟨oc_law_round, od_law_round, .func (PySem.W.fnOf "_law_round" "_law_round" (defArgs s_law_round) (defBody s_law_round) (defScope s_law_round) .none kV_law_round dc_law_round pm_law_round an_law_round cd_law_round ct_law_round), sl_law_round⟩) (c_law_round : PySem.W.codeIn K cd_law_round "_law_round" = true) (k_law_round : PySem.W.keepIn K (.ref f_law_round) = true)
    {od_law_rule an_law_rule : Option Addr} {sl_law_rule : Array (Option Value)} {oc_law_rule kV_law_rule dc_law_rule pm_law_rule cd_law_rule ct_law_rule : Value}
    (a_law_rule : PySem.W.nsIn K mainGlobals "_law_rule" = some (some (.ref f_law_rule)))
    (l_law_rule : K.lookup f_law_rule = some ⟨oc_law_rule, od_law_rule, .func (PySem.W.fnOf "_law_rule" "_law_rule" (defArgs s_law_rule) (defBody s_law_rule) (defScope s_law_rule) .none kV_law_rule dc_law_rule pm_law_rule an_law_rule cd_law_rule ct_law_rule), sl_law_rule⟩) (c_law_rule : PySem.W.codeIn K cd_law_rule "_law_rule" = true) (k_law_rule : PySem.W.keepIn K (.ref f_law_rule) = true)
    {od_law_board an_law_board : Option Addr} {sl_law_board : Array (Option Value)} {oc_law_board kV_law_board dc_law_board pm_law_board cd_law_board ct_law_board : Value}
    (a_law_board : PySem.W.nsIn K mainGlobals "_law_board" = some (some (.ref f_law_board)))
    (l_law_board : K.lookup f_law_board = some ⟨oc_law_board, od_law_board, .func (PySem.W.fnOf "_law_board" "_law_board" (defArgs s_law_board) (defBody s_law_board) (defScope s_law_board) .none kV_law_board dc_law_board pm_law_board an_law_board cd_law_board ct_law_board), sl_law_board⟩) (c_law_board : PySem.W.codeIn K cd_law_board "_law_board" = true) (k_law_board : PySem.W.keepIn K (.ref f_law_board) = true)
    {od_law_table an_law_table : Option Addr} {sl_law_table : Array (Option Value)} {oc_law_table kV_law_table dc_law_table pm_law_table cd_law_table ct_law_table : Value}
    (a_law_table : PySem.W.nsIn K mainGlobals "_law_table" = some (some (.ref f_law_table)))
    (l_law_table : K.lookup f_law_table = some ⟨oc_law_table, od_law_table, .func (PySem.W.fnOf "_law_table" "_law_table" (defArgs s_law_table) (defBody s_law_table) (defScope s_law_table) .none kV_law_table dc_law_table pm_law_table an_law_table cd_law_table ct_law_table), sl_law_table⟩) (c_law_table : PySem.W.codeIn K cd_law_table "_law_table" = true) (k_law_table : PySem.W.keepIn K (.ref f_law_table) = true)
    {od_law_standing an_law_standing : Option Addr} {sl_law_standing : Array (Option Value)} {oc_law_standing kV_law_standing dc_law_standing pm_law_standing cd_law_standing ct_law_standing : Value}
    (a_law_standing : PySem.W.nsIn K mainGlobals "_law_standing" = some (some (.ref f_law_standing)))
    (l_law_standing : K.lookup f_law_standing = some ⟨oc_law_standing, od_law_standing, .func (PySem.W.fnOf "_law_standing" "_law_standing" (defArgs s_law_standing) (defBody s_law_standing) (defScope s_law_standing) .none kV_law_standing dc_law_standing pm_law_standing an_law_standing cd_law_standing ct_law_standing), sl_law_standing⟩) (c_law_standing : PySem.W.codeIn K cd_law_standing "_law_standing" = true) (k_law_standing : PySem.W.keepIn K (.ref f_law_standing) = true)
    {od_law_exchanged an_law_exchanged : Option Addr} {sl_law_exchanged : Array (Option Value)} {oc_law_exchanged kV_law_exchanged dc_law_exchanged pm_law_exchanged cd_law_exchanged ct_law_exchanged : Value}
    (a_law_exchanged : PySem.W.nsIn K mainGlobals "_law_exchanged" = some (some (.ref f_law_exchanged)))
    (l_law_exchanged : K.lookup f_law_exchanged = some ⟨oc_law_exchanged, od_law_exchanged, .func (PySem.W.fnOf "_law_exchanged" "_law_exchanged" (defArgs s_law_exchanged) (defBody s_law_exchanged) (defScope s_law_exchanged) .none kV_law_exchanged dc_law_exchanged pm_law_exchanged an_law_exchanged cd_law_exchanged ct_law_exchanged), sl_law_exchanged⟩) (c_law_exchanged : PySem.W.codeIn K cd_law_exchanged "_law_exchanged" = true) (k_law_exchanged : PySem.W.keepIn K (.ref f_law_exchanged) = true)
    {od_law an_law : Option Addr} {sl_law : Array (Option Value)} {oc_law kV_law dc_law pm_law cd_law ct_law : Value}
    (a_law : PySem.W.nsIn K mainGlobals "law" = some (some (.ref f_law)))
    (l_law : K.lookup f_law = some ⟨oc_law, od_law, .func (PySem.W.fnOf "law" "law" (defArgs s_law) (defBody s_law) (defScope s_law) .none kV_law dc_law pm_law an_law cd_law ct_law), sl_law⟩) (c_law : PySem.W.codeIn K cd_law "law" = true) (k_law : PySem.W.keepIn K (.ref f_law) = true)
    {od_Board_init an_Board_init : Option Addr} {sl_Board_init : Array (Option Value)} {oc_Board_init kV_Board_init dc_Board_init pm_Board_init cd_Board_init ct_Board_init : Value}
    (a_Board_init : PySem.W.findIn K (.ref K_Board) "__init__" = some (some (.ref f_Board_init))) (i_Board_init : PySem.W.isFn K (.ref f_Board_init) = true)
    (l_Board_init : K.lookup f_Board_init = some ⟨oc_Board_init, od_Board_init, .func (PySem.W.fnOf "__init__" "Board.__init__" (defArgs s_Board_init) (defBody s_Board_init) (defScope s_Board_init) .none kV_Board_init dc_Board_init pm_Board_init an_Board_init cd_Board_init ct_Board_init), sl_Board_init⟩) (c_Board_init : PySem.W.codeIn K cd_Board_init "Board.__init__" = true) (k_Board_init : PySem.W.keepIn K (.ref f_Board_init) = true)
    {od_Board_eq an_Board_eq : Option Addr} {sl_Board_eq : Array (Option Value)} {oc_Board_eq kV_Board_eq dc_Board_eq pm_Board_eq cd_Board_eq ct_Board_eq : Value}
    (a_Board_eq : PySem.W.findIn K (.ref K_Board) "__eq__" = some (some (.ref f_Board_eq))) (i_Board_eq : PySem.W.isFn K (.ref f_Board_eq) = true)
    (l_Board_eq : K.lookup f_Board_eq = some ⟨oc_Board_eq, od_Board_eq, .func (PySem.W.fnOf "__eq__" "Board.__eq__" (defArgs s_Board_eq) (defBody s_Board_eq) (defScope s_Board_eq) .none kV_Board_eq dc_Board_eq pm_Board_eq an_Board_eq cd_Board_eq ct_Board_eq), sl_Board_eq⟩) (c_Board_eq : PySem.W.codeIn K cd_Board_eq "Board.__eq__" = true) (k_Board_eq : PySem.W.keepIn K (.ref f_Board_eq) = true)
    {od_Board_first an_Board_first : Option Addr} {sl_Board_first : Array (Option Value)} {oc_Board_first kV_Board_first dc_Board_first pm_Board_first cd_Board_first ct_Board_first : Value}
    (a_Board_first : PySem.W.findIn K (.ref K_Board) "first" = some (some (.ref f_Board_first))) (i_Board_first : PySem.W.isFn K (.ref f_Board_first) = true)
    (l_Board_first : K.lookup f_Board_first = some ⟨oc_Board_first, od_Board_first, .func (PySem.W.fnOf "first" "Board.first" (defArgs s_Board_first) (defBody s_Board_first) (defScope s_Board_first) .none kV_Board_first dc_Board_first pm_Board_first an_Board_first cd_Board_first ct_Board_first), sl_Board_first⟩) (c_Board_first : PySem.W.codeIn K cd_Board_first "Board.first" = true) (k_Board_first : PySem.W.keepIn K (.ref f_Board_first) = true)
    {od_Board_second an_Board_second : Option Addr} {sl_Board_second : Array (Option Value)} {oc_Board_second kV_Board_second dc_Board_second pm_Board_second cd_Board_second ct_Board_second : Value}
    (a_Board_second : PySem.W.findIn K (.ref K_Board) "second" = some (some (.ref f_Board_second))) (i_Board_second : PySem.W.isFn K (.ref f_Board_second) = true)
    (l_Board_second : K.lookup f_Board_second = some ⟨oc_Board_second, od_Board_second, .func (PySem.W.fnOf "second" "Board.second" (defArgs s_Board_second) (defBody s_Board_second) (defScope s_Board_second) .none kV_Board_second dc_Board_second pm_Board_second an_Board_second cd_Board_second ct_Board_second), sl_Board_second⟩) (c_Board_second : PySem.W.codeIn K cd_Board_second "Board.second" = true) (k_Board_second : PySem.W.keepIn K (.ref f_Board_second) = true)
    {od_Board_rule an_Board_rule : Option Addr} {sl_Board_rule : Array (Option Value)} {oc_Board_rule kV_Board_rule dc_Board_rule pm_Board_rule cd_Board_rule ct_Board_rule : Value}
    (a_Board_rule : PySem.W.findIn K (.ref K_Board) "rule" = some (some (.ref f_Board_rule))) (i_Board_rule : PySem.W.isFn K (.ref f_Board_rule) = true)
    (l_Board_rule : K.lookup f_Board_rule = some ⟨oc_Board_rule, od_Board_rule, .func (PySem.W.fnOf "rule" "Board.rule" (defArgs s_Board_rule) (defBody s_Board_rule) (defScope s_Board_rule) .none kV_Board_rule dc_Board_rule pm_Board_rule an_Board_rule cd_Board_rule ct_Board_rule), sl_Board_rule⟩) (c_Board_rule : PySem.W.codeIn K cd_Board_rule "Board.rule" = true) (k_Board_rule : PySem.W.keepIn K (.ref f_Board_rule) = true)
    {od_Board_word_at an_Board_word_at : Option Addr} {sl_Board_word_at : Array (Option Value)} {oc_Board_word_at kV_Board_word_at dc_Board_word_at pm_Board_word_at cd_Board_word_at ct_Board_word_at : Value}
    (a_Board_word_at : PySem.W.findIn K (.ref K_Board) "word_at" = some (some (.ref f_Board_word_at))) (i_Board_word_at : PySem.W.isFn K (.ref f_Board_word_at) = true)
    (l_Board_word_at : K.lookup f_Board_word_at = some ⟨oc_Board_word_at, od_Board_word_at, .func (PySem.W.fnOf "word_at" "Board.word_at" (defArgs s_Board_word_at) (defBody s_Board_word_at) (defScope s_Board_word_at) .none kV_Board_word_at dc_Board_word_at pm_Board_word_at an_Board_word_at cd_Board_word_at ct_Board_word_at), sl_Board_word_at⟩) (c_Board_word_at : PySem.W.codeIn K cd_Board_word_at "Board.word_at" = true) (k_Board_word_at : PySem.W.keepIn K (.ref f_Board_word_at) = true)
    {od_Board_go an_Board_go : Option Addr} {sl_Board_go : Array (Option Value)} {oc_Board_go kV_Board_go dc_Board_go pm_Board_go cd_Board_go ct_Board_go : Value}
    (a_Board_go : PySem.W.findIn K (.ref K_Board) "go" = some (some (.ref f_Board_go))) (i_Board_go : PySem.W.isFn K (.ref f_Board_go) = true)
    (l_Board_go : K.lookup f_Board_go = some ⟨oc_Board_go, od_Board_go, .func (PySem.W.fnOf "go" "Board.go" (defArgs s_Board_go) (defBody s_Board_go) (defScope s_Board_go) .none kV_Board_go dc_Board_go pm_Board_go an_Board_go cd_Board_go ct_Board_go), sl_Board_go⟩) (c_Board_go : PySem.W.codeIn K cd_Board_go "Board.go" = true) (k_Board_go : PySem.W.keepIn K (.ref f_Board_go) = true)
    {t_FIRST : Tok} (v_FIRST : PySem.W.nsIn K mainGlobals "FIRST" = some (some (.str "first" t_FIRST)))
    {t_SECOND : Tok} (v_SECOND : PySem.W.nsIn K mainGlobals "SECOND" = some (some (.str "second" t_SECOND)))
    {t_OTHER : Tok} (v_OTHER : PySem.W.nsIn K mainGlobals "OTHER" = some (some (.str "other" t_OTHER)))
    {t_WORDS_0 t_WORDS_1 t_WORDS_2 : Tok} {n_WORDS : Nat} {d_WORDS : Option Addr} {s_WORDS : Array (Option Value)} (v_WORDS : PySem.W.nsIn K mainGlobals "WORDS" = some (some (.ref A_WORDS))) (l_WORDS : K.lookup A_WORDS = some ⟨.type "tuple", d_WORDS, .seq #[.str "first" t_WORDS_0, .str "second" t_WORDS_1, .str "other" t_WORDS_2] n_WORDS, s_WORDS⟩)
    {es_TURNED : Array DictEntry} {n_TURNED : Nat} {t_TURNED_0 t_TURNED_1 t_TURNED_2 : Tok} (v_TURNED : PySem.W.nsIn K mainGlobals "TURNED" = some (some (.ref A_TURNED))) (l_TURNED : K.lookup A_TURNED = some ⟨.type "dict", none, .dict es_TURNED n_TURNED, #[]⟩) (h_TURNED : PySem.W.KeysLit w.params es_TURNED.toList)
    (e_TURNED_0 : PySem.W.nsIn K A_TURNED "first" = some (some (.str "second" t_TURNED_0)))
    (e_TURNED_1 : PySem.W.nsIn K A_TURNED "second" = some (some (.str "first" t_TURNED_1)))
    (e_TURNED_2 : PySem.W.nsIn K A_TURNED "other" = some (some (.str "other" t_TURNED_2)))
    (ca_Board : PySem.W.findIn K (.ref K_Board) "__class__" = some (some (.builtin "object.__class__")))
    (cn_Board : PySem.W.specialIn K (.builtin "object.__class__") "__get__" = some (some (.builtin "getset_descriptor.__get__")))
    (ct_Board : PySem.W.takesIn K (.builtin "object.__class__") = some true)
    (mr_Board : PySem.W.mroIn K K_Board (.type "object") = some true)
    (nq_Board : PySem.W.findIn K (.ref K_Board) "__ne__" = some (some (.builtin "object.__ne__")))
    (ob_Board : PySem.W.subIn K (.ref K_Board) (.type "object") = some true)
    (y_enumerate : PySem.W.nsIn K mainGlobals "enumerate" = some none)
    (y_sorted : PySem.W.nsIn K mainGlobals "sorted" = some none)
    (y_dict : PySem.W.nsIn K mainGlobals "dict" = some none)
    (y_range : PySem.W.nsIn K mainGlobals "range" = some none)
    (y_len : PySem.W.nsIn K mainGlobals "len" = some none)
    (y_divmod : PySem.W.nsIn K mainGlobals "divmod" = some none)
    (y_list : PySem.W.nsIn K mainGlobals "list" = some none)
    (y_min : PySem.W.nsIn K mainGlobals "min" = some none)
    (y_isinstance : PySem.W.nsIn K mainGlobals "isinstance" = some none)
    (y_abs : PySem.W.nsIn K mainGlobals "abs" = some none)
    (y_int : PySem.W.nsIn K mainGlobals "int" = some none)
    : ∃ fd : FuncData, (∀ (s : Shared) (v : Value), BindsTo s fd ⟨[v], []⟩ [("script", v)]) ∧ ∀ base : Heap, K.In base → base.Ns mainGlobals mg → FnOk l.prog w K mg base CX0 6 fa fd ["script"] (cSp K ctLaw) := by
  have e := hfa.symm.trans (PySem.W.mg_of X G a_law)
  cases e
  have B_Board : Cls K K_Board := ⟨pg_Board, hd_Board, po_Board, sa_Board⟩
  have g_Board := PySem.W.mg_of X G a_Board
  have N_Board_rounds_held : NoAttr K K_Board "rounds_held" := n_Board_rounds_held
  have N_Board_words_held : NoAttr K K_Board "words_held" := n_Board_words_held
  have F_words_of := fun_mk (st := s_words_of) l_words_of c_words_of k_words_of
  have g_words_of := PySem.W.mg_of X G a_words_of
  have b_words_of := F_words_of.binds (ps := ["rule"]) fun _ _ _ _ _ _ us hl => match us, hl with | [_], _ => rfl
  have F_need_place := fun_mk (st := s_need_place) l_need_place c_need_place k_need_place
  have g_need_place := PySem.W.mg_of X G a_need_place
  have b_need_place := F_need_place.binds (ps := ["board", "i", "j"]) fun _ _ _ _ _ _ us hl => match us, hl with | [_, _, _], _ => rfl
  have F_need_standing := fun_mk (st := s_need_standing) l_need_standing c_need_standing k_need_standing
  have g_need_standing := PySem.W.mg_of X G a_need_standing
  have b_need_standing := F_need_standing.binds (ps := ["board", "standing"]) fun _ _ _ _ _ _ us hl => match us, hl with | [_, _], _ => rfl
  have F_after := fun_mk (st := s_after) l_after c_after k_after
  have g_after := PySem.W.mg_of X G a_after
  have b_after := F_after.binds (ps := ["board", "standing"]) fun _ _ _ _ _ _ us hl => match us, hl with | [_, _], _ => rfl
  have F_road := fun_mk (st := s_road) l_road c_road k_road
  have g_road := PySem.W.mg_of X G a_road
  have b_road := F_road.binds (ps := ["board", "standing"]) fun _ _ _ _ _ _ us hl => match us, hl with | [_, _], _ => rfl
  have F_steps_on := fun_mk (st := s_steps_on) l_steps_on c_steps_on k_steps_on
  have g_steps_on := PySem.W.mg_of X G a_steps_on
  have b_steps_on := F_steps_on.binds (ps := ["board", "standings"]) fun _ _ _ _ _ _ us hl => match us, hl with | [_, _], _ => rfl
  have F_turned := fun_mk (st := s_turned) l_turned c_turned k_turned
  have g_turned := PySem.W.mg_of X G a_turned
  have b_turned := F_turned.binds (ps := ["board"]) fun _ _ _ _ _ _ us hl => match us, hl with | [_], _ => rfl
  have F_from_least := fun_mk (st := s_from_least) l_from_least c_from_least k_from_least
  have g_from_least := PySem.W.mg_of X G a_from_least
  have b_from_least := F_from_least.binds (ps := ["ring"]) fun _ _ _ _ _ _ us hl => match us, hl with | [_], _ => rfl
  have F_rings := fun_mk (st := s_rings) l_rings c_rings k_rings
  have g_rings := PySem.W.mg_of X G a_rings
  have b_rings := F_rings.binds (ps := ["leads"]) fun _ _ _ _ _ _ us hl => match us, hl with | [_], _ => rfl
  have F_standings_led := fun_mk (st := s_standings_led) l_standings_led c_standings_led k_standings_led
  have g_standings_led := PySem.W.mg_of X G a_standings_led
  have b_standings_led := F_standings_led.binds (ps := ["board"]) fun _ _ _ _ _ _ us hl => match us, hl with | [_], _ => rfl
  have F_trips := fun_mk (st := s_trips) l_trips c_trips k_trips
  have g_trips := PySem.W.mg_of X G a_trips
  have b_trips := F_trips.binds (ps := ["board"]) fun _ _ _ _ _ _ us hl => match us, hl with | [_], _ => rfl
  have F_pace := fun_mk (st := s_pace) l_pace c_pace k_pace
  have g_pace := PySem.W.mg_of X G a_pace
  have b_pace := F_pace.binds (ps := ["board"]) fun _ _ _ _ _ _ us hl => match us, hl with | [_], _ => rfl
  have F_law_bag := fun_mk (st := s_law_bag) l_law_bag c_law_bag k_law_bag
  have g_law_bag := PySem.W.mg_of X G a_law_bag
  have b_law_bag := F_law_bag.binds (ps := ["script"]) fun _ _ _ _ _ _ us hl => match us, hl with | [_], _ => rfl
  have F_law_draw := fun_mk (st := s_law_draw) l_law_draw c_law_draw k_law_draw
  have g_law_draw := PySem.W.mg_of X G a_law_draw
  have b_law_draw := F_law_draw.binds (ps := ["bag", "many"]) fun _ _ _ _ _ _ us hl => match us, hl with | [_, _], _ => rfl
  have F_law_round := fun_mk (st := s_law_round) l_law_round c_law_round k_law_round
  have g_law_round := PySem.W.mg_of X G a_law_round
  have b_law_round := F_law_round.binds (ps := ["bag", "most"]) fun _ _ _ _ _ _ us hl => match us, hl with | [_, _], _ => rfl
  have F_law_rule := fun_mk (st := s_law_rule) l_law_rule c_law_rule k_law_rule
  have g_law_rule := PySem.W.mg_of X G a_law_rule
  have b_law_rule := F_law_rule.binds (ps := ["bag", "first", "second", "words"]) fun _ _ _ _ _ _ us hl => match us, hl with | [_, _, _, _], _ => rfl
  have F_law_board := fun_mk (st := s_law_board) l_law_board c_law_board k_law_board
  have g_law_board := PySem.W.mg_of X G a_law_board
  have b_law_board := F_law_board.binds (ps := ["bag", "words"]) fun _ _ _ _ _ _ us hl => match us, hl with | [_, _], _ => rfl
  have F_law_table := fun_mk (st := s_law_table) l_law_table c_law_table k_law_table
  have g_law_table := PySem.W.mg_of X G a_law_table
  have b_law_table := F_law_table.binds (ps := ["first", "second", "rows"]) fun _ _ _ _ _ _ us hl => match us, hl with | [_, _, _], _ => rfl
  have F_law_standing := fun_mk (st := s_law_standing) l_law_standing c_law_standing k_law_standing
  have g_law_standing := PySem.W.mg_of X G a_law_standing
  have b_law_standing := F_law_standing.binds (ps := ["bag", "table"]) fun _ _ _ _ _ _ us hl => match us, hl with | [_, _], _ => rfl
  have F_law_exchanged := fun_mk (st := s_law_exchanged) l_law_exchanged c_law_exchanged k_law_exchanged
  have g_law_exchanged := PySem.W.mg_of X G a_law_exchanged
  have b_law_exchanged := F_law_exchanged.binds (ps := ["standing"]) fun _ _ _ _ _ _ us hl => match us, hl with | [_], _ => rfl
  have F_law := fun_mk (st := s_law) l_law c_law k_law
  have g_law := PySem.W.mg_of X G a_law
  have b_law := F_law.binds (ps := ["script"]) fun _ _ _ _ _ _ us hl => match us, hl with | [_], _ => rfl
  have F_Board_init := fun_mk (st := s_Board_init) l_Board_init c_Board_init k_Board_init
  have Mk_Board : L2.Mk K K_Board f_Board_init := ⟨mk_Board, a_Board_init, i_Board_init, kc_Board⟩
  have b_Board_init := F_Board_init.binds (ps := ["self", "first", "second", "rule"]) fun _ _ _ _ _ _ us hl => match us, hl with | [_, _, _, _], _ => rfl
  have F_Board_eq := fun_mk (st := s_Board_eq) l_Board_eq c_Board_eq k_Board_eq
  have M_Board_eq : Meth K K_Board "__eq__" f_Board_eq := ⟨a_Board_eq, i_Board_eq, k_Board_eq⟩
  have b_Board_eq := F_Board_eq.binds (ps := ["self", "other"]) fun _ _ _ _ _ _ us hl => match us, hl with | [_, _], _ => rfl
  have F_Board_first := fun_mk (st := s_Board_first) l_Board_first c_Board_first k_Board_first
  have M_Board_first : Meth K K_Board "first" f_Board_first := ⟨a_Board_first, i_Board_first, k_Board_first⟩
  have b_Board_first := F_Board_first.binds (ps := ["self"]) fun _ _ _ _ _ _ us hl => match us, hl with | [_], _ => rfl
  have F_Board_second := fun_mk (st := s_Board_second) l_Board_second c_Board_second k_Board_second
  have M_Board_second : Meth K K_Board "second" f_Board_second := ⟨a_Board_second, i_Board_second, k_Board_second⟩
  have b_Board_second := F_Board_second.binds (ps := ["self"]) fun _ _ _ _ _ _ us hl => match us, hl with | [_], _ => rfl
  have F_Board_rule := fun_mk (st := s_Board_rule) l_Board_rule c_Board_rule k_Board_rule
  have M_Board_rule : Meth K K_Board "rule" f_Board_rule := ⟨a_Board_rule, i_Board_rule, k_Board_rule⟩
  have b_Board_rule := F_Board_rule.binds (ps := ["self"]) fun _ _ _ _ _ _ us hl => match us, hl with | [_], _ => rfl
  have F_Board_word_at := fun_mk (st := s_Board_word_at) l_Board_word_at c_Board_word_at k_Board_word_at
  have M_Board_word_at : Meth K K_Board "word_at" f_Board_word_at := ⟨a_Board_word_at, i_Board_word_at, k_Board_word_at⟩
  have b_Board_word_at := F_Board_word_at.binds (ps := ["self", "i", "j"]) fun _ _ _ _ _ _ us hl => match us, hl with | [_, _, _], _ => rfl
  have F_Board_go := fun_mk (st := s_Board_go) l_Board_go c_Board_go k_Board_go
  have M_Board_go : Meth K K_Board "go" f_Board_go := ⟨a_Board_go, i_Board_go, k_Board_go⟩
  have b_Board_go := F_Board_go.binds (ps := ["self", "standing", "ticks"]) fun _ _ _ _ _ _ us hl => match us, hl with | [_, _, _], _ => rfl
  have C_FIRST : GlD K mg "FIRST" (.str "first") := glS (PySem.W.mg_of X G v_FIRST)
  have C_SECOND : GlD K mg "SECOND" (.str "second") := glS (PySem.W.mg_of X G v_SECOND)
  have C_OTHER : GlD K mg "OTHER" (.str "other") := glS (PySem.W.mg_of X G v_OTHER)
  have C_WORDS : GlD K mg "WORDS" (.tupK [.str "first", .str "second", .str "other"]) := glTS (ys := ["first", "second", "other"]) (PySem.W.mg_of X G v_WORDS) l_WORDS rfl rfl (by show 3 ≤ sizeLine; decide) (.cons ⟨_, rfl⟩ (.cons ⟨_, rfl⟩ (.cons ⟨_, rfl⟩ (.nil))))
  have X_TURNED : GlD K mg "TURNED" (.adr A_TURNED) := glA (PySem.W.mg_of X G v_TURNED)
  have KD_TURNED_0 : KDct K w A_TURNED "first" (.str "second") := ⟨_, _, _, l_TURNED, h_TURNED, e_TURNED_0, ⟨_, rfl⟩⟩
  have KD_TURNED_1 : KDct K w A_TURNED "second" (.str "first") := ⟨_, _, _, l_TURNED, h_TURNED, e_TURNED_1, ⟨_, rfl⟩⟩
  have KD_TURNED_2 : KDct K w A_TURNED "other" (.str "other") := ⟨_, _, _, l_TURNED, h_TURNED, e_TURNED_2, ⟨_, rfl⟩⟩
  have OC_Board : OwnC K K_Board := ⟨B_Board, ca_Board, cn_Board, ct_Board, mr_Board⟩
  have z_enumerate : mg "enumerate" = none := PySem.W.mg_none_of X G y_enumerate
  have z_sorted : mg "sorted" = none := PySem.W.mg_none_of X G y_sorted
  have z_dict : mg "dict" = none := PySem.W.mg_none_of X G y_dict
  have z_range : mg "range" = none := PySem.W.mg_none_of X G y_range
  have z_len : mg "len" = none := PySem.W.mg_none_of X G y_len
  have z_divmod : mg "divmod" = none := PySem.W.mg_none_of X G y_divmod
  have z_list : mg "list" = none := PySem.W.mg_none_of X G y_list
  have z_min : mg "min" = none := PySem.W.mg_none_of X G y_min
  have z_isinstance : mg "isinstance" = none := PySem.W.mg_none_of X G y_isinstance
  have z_abs : mg "abs" = none := PySem.W.mg_none_of X G y_abs
  have z_int : mg "int" = none := PySem.W.mg_none_of X G y_int
  refine ⟨PySem.W.fnOf "law" "law" (defArgs s_law) (defBody s_law) (defScope s_law) .none kV_law dc_law pm_law an_law cd_law ct_law, fun s v => .of_eq rfl, fun base _ _ => ?_⟩
  have Bc : BoardC K K_Board := ⟨B_Board, N_Board_rounds_held, N_Board_words_held⟩
  have D_words := fnC_mk (P := l.prog) (w := w) (base := base) F_words_of g_words_of b_words_of (ok_words F_words_of z_enumerate C_WORDS) ctF_mono
  have o_init := ok_init (P := l.prog) (w := w) (base := base) F_Board_init Bc z_enumerate D_words
  have Mb : MkC l.prog w K mg base K_Board "Board" ["self", "first", "second", "rule"] 2 Bd.ok bdA bdF := ⟨⟨_, _, g_Board, Mk_Board, b_Board_init, o_init⟩⟩
  have M1 := meC_mk (P := l.prog) (w := w) (mg := mg) (base := base) F_Board_first M_Board_first B_Board b_Board_first (ok_first F_Board_first Bc) ctF_mono
  have M2 := meC_mk (P := l.prog) (w := w) (mg := mg) (base := base) F_Board_second M_Board_second B_Board b_Board_second (ok_second F_Board_second Bc) ctF_mono
  have M3 := meC_mk (P := l.prog) (w := w) (base := base) F_Board_word_at M_Board_word_at B_Board b_Board_word_at (ok_wordAt F_Board_word_at Bc C_OTHER) ctF_mono
  have D_place := fnC_mk F_need_place g_need_place b_need_place (ok_place F_need_place M1 M2 z_len) ctF_mono
  have D_needS := fnC_mk F_need_standing g_need_standing b_need_standing (ok_needS F_need_standing D_place C_FIRST C_SECOND) ctF_mono
  have D_after := fnC_mk F_after g_after b_after (ok_after F_after M1 M2 M3 z_len C_FIRST C_SECOND C_OTHER) ctF_mono
  have D_road := fnC_mk F_road g_road b_road (ok_road F_road D_after z_len z_list) ctG_mono
  have D_steps := fnC_mk F_steps_on g_steps_on b_steps_on (ok_steps F_steps_on D_after) ctF_mono
  have Mg := meC_mk F_Board_go M_Board_go B_Board b_Board_go (goF_of (ok_go (P := l.prog) (w := w) (base := base) (C := K_Board) F_Board_go D_needS D_road D_steps z_len z_divmod)) ctF_mono
  have D_least := fnC_mk (P := l.prog) (w := w) (base := base) F_from_least g_from_least b_from_least (ok_least F_from_least z_min) ctF_mono
  have D_rings := fnC_mk F_rings g_rings b_rings (ok_rings F_rings D_least z_len z_list z_sorted) ctF_mono
  have D_ledS := fnC_mk F_standings_led g_standings_led b_standings_led (ok_ledS F_standings_led D_after M1 M2 z_len z_range C_FIRST C_SECOND) ctF_mono
  have D_trips := fnC_mk F_trips g_trips b_trips (ok_trips F_trips D_ledS D_rings) ctF_mono
  have D_pace := fnC_mk F_pace g_pace b_pace (ok_pace F_pace D_trips D_steps M1 M2 z_len) ctF_mono
  have D_bag := fnC_mk (P := l.prog) (w := w) (base := base) F_law_bag g_law_bag b_law_bag (ok_bag F_law_bag z_abs) ctBag_mono
  have D_draw := fnC_mk (P := l.prog) (w := w) (base := base) F_law_draw g_law_draw b_law_draw (ok_bdraw F_law_draw z_len) ctT_mono
  have D_round := fnC_mk F_law_round g_law_round b_law_round (ok_bround F_law_round D_draw z_range) ctT_mono
  have D_rule := fnC_mk F_law_rule g_law_rule b_law_rule (ok_brule F_law_rule D_draw z_len) ctT_mono
  have D_board := fnC_mk F_law_board g_law_board b_law_board (ok_bboard F_law_board D_draw D_round D_rule) ctT_mono
  have D_table := fnC_mk (P := l.prog) (w := w) (base := base) F_law_table g_law_table b_law_table (ok_table F_law_table z_dict) ctF_mono
  have D_stand := fnC_mk F_law_standing g_law_standing b_law_standing (ok_bstand F_law_standing D_draw z_len) ctTA_mono
  have M4 := meC_mk (P := l.prog) (w := w) (mg := mg) (base := base) F_Board_rule M_Board_rule B_Board b_Board_rule (ok_rule F_Board_rule Bc z_sorted) ctF_mono
  have Eq : EqC l.prog w K mg base K_Board 1 (ctEqB K_Board) := ⟨⟨_, _, a_Board_eq, i_Board_eq, b_Board_eq, ok_beq F_Board_eq Bc OC_Board (glA g_Board) z_isinstance⟩, nq_Board, ob_Board, ctF_mono⟩
  have o_turned := ok_turned F_turned M1 M2 M4 Mb X_TURNED KD_TURNED_0 KD_TURNED_1 KD_TURNED_2
  have D_turned := fnC_mk F_turned g_turned b_turned o_turned ctF_mono
  have W_turned := kwF_mk (ks := ["board"]) (ix := [0]) F_turned g_turned o_turned ctF_mono (fun _ _ _ _ _ _ us hl => match us, hl with | [_], _ => rfl)
  have D_ex := fnC_mk (P := l.prog) (w := w) (base := base) F_law_exchanged g_law_exchanged b_law_exchanged (ok_ex F_law_exchanged z_int) ctF_mono
  exact ok_law F_law D_bag D_draw D_board D_table D_stand D_ex D_pace D_trips D_turned W_turned Eq M1 M2 Mg Mb z_range z_len z_min
end K30
open PySem PySem.W PyProof.Rows
set_option maxHeartbeats 0 in
theorem PySem.Challenge.cw_roundfence_k30_turned_about_holds : PySem.Challenge.rw_roundfence_k30_turned_about.Holds := by
  w_on; o_law; k_head; (case hw => w_witness2)
  k_fill
  refine L2.walk_ofK (l := PySem.Challenge.rw_roundfence_k30_turned_about) (n := 63) (k := 6) (x := "script") (CX := L2.CX0) (sp := fun K => DL.cSp K DL.ctLaw) rfl (by decide) rfl ⟨rfl, by decide, by decide⟩ (fun w h Y => PySem.W.kIn_of Y) ?F (fun K H a ns hl _ hS => DL.ctLaw_in hl hS _) (fun _ _ _ _ h => h)
  case F =>
    intro w mg fa h KX G hmg
    refine' K30.all_mk KX G hmg ?a_Board ?pg_Board ?hd_Board ?po_Board ?sa_Board ?mk_Board ?kc_Board ?n_Board_rounds_held ?n_Board_words_held ?a_words_of ?l_words_of ?c_words_of ?k_words_of ?a_need_place ?l_need_place ?c_need_place ?k_need_place ?a_need_standing ?l_need_standing ?c_need_standing ?k_need_standing ?a_after ?l_after ?c_after ?k_after ?a_road ?l_road ?c_road ?k_road ?a_steps_on ?l_steps_on ?c_steps_on ?k_steps_on ?a_turned ?l_turned ?c_turned ?k_turned ?a_from_least ?l_from_least ?c_from_least ?k_from_least ?a_rings ?l_rings ?c_rings ?k_rings ?a_standings_led ?l_standings_led ?c_standings_led ?k_standings_led ?a_trips ?l_trips ?c_trips ?k_trips ?a_pace ?l_pace ?c_pace ?k_pace ?a_law_bag ?l_law_bag ?c_law_bag ?k_law_bag ?a_law_draw ?l_law_draw ?c_law_draw ?k_law_draw ?a_law_round ?l_law_round ?c_law_round ?k_law_round ?a_law_rule ?l_law_rule ?c_law_rule ?k_law_rule ?a_law_board ?l_law_board ?c_law_board ?k_law_board ?a_law_table ?l_law_table ?c_law_table ?k_law_table ?a_law_standing ?l_law_standing ?c_law_standing ?k_law_standing ?a_law_exchanged ?l_law_exchanged ?c_law_exchanged ?k_law_exchanged ?a_law ?l_law ?c_law ?k_law ?a_Board_init ?i_Board_init ?l_Board_init ?c_Board_init ?k_Board_init ?a_Board_eq ?i_Board_eq ?l_Board_eq ?c_Board_eq ?k_Board_eq ?a_Board_first ?i_Board_first ?l_Board_first ?c_Board_first ?k_Board_first ?a_Board_second ?i_Board_second ?l_Board_second ?c_Board_second ?k_Board_second ?a_Board_rule ?i_Board_rule ?l_Board_rule ?c_Board_rule ?k_Board_rule ?a_Board_word_at ?i_Board_word_at ?l_Board_word_at ?c_Board_word_at ?k_Board_word_at ?a_Board_go ?i_Board_go ?l_Board_go ?c_Board_go ?k_Board_go ?v_FIRST ?v_SECOND ?v_OTHER ?v_WORDS ?l_WORDS ?v_TURNED ?l_TURNED ?h_TURNED ?e_TURNED_0 ?e_TURNED_1 ?e_TURNED_2 ?ca_Board ?cn_Board ?ct_Board ?mr_Board ?nq_Board ?ob_Board ?y_enumerate ?y_sorted ?y_dict ?y_range ?y_len ?y_divmod ?y_list ?y_min ?y_isinstance ?y_abs ?y_int
    (case a_Board => k_is); (case pg_Board => k_is); (case hd_Board => k_is); (case po_Board => k_is); (case sa_Board => k_is); (case mk_Board => k_is); (case kc_Board => k_is); (case n_Board_rounds_held => k_is); (case n_Board_words_held => k_is); (case a_words_of => k_is); (case l_words_of => k_is); (case c_words_of => k_is); (case k_words_of => k_is); (case a_need_place => k_is); (case l_need_place => k_is); (case c_need_place => k_is); (case k_need_place => k_is); (case a_need_standing => k_is); (case l_need_standing => k_is); (case c_need_standing => k_is); (case k_need_standing => k_is); (case a_after => k_is); (case l_after => k_is); (case c_after => k_is); (case k_after => k_is); (case a_road => k_is); (case l_road => k_is); (case c_road => k_is); (case k_road => k_is); (case a_steps_on => k_is); (case l_steps_on => k_is); (case c_steps_on => k_is); (case k_steps_on => k_is); (case a_turned => k_is); (case l_turned => k_is); (case c_turned => k_is); (case k_turned => k_is); (case a_from_least => k_is); (case l_from_least => k_is); (case c_from_least => k_is); (case k_from_least => k_is); (case a_rings => k_is); (case l_rings => k_is); (case c_rings => k_is); (case k_rings => k_is); (case a_standings_led => k_is); (case l_standings_led => k_is); (case c_standings_led => k_is); (case k_standings_led => k_is); (case a_trips => k_is); (case l_trips => k_is); (case c_trips => k_is); (case k_trips => k_is); (case a_pace => k_is); (case l_pace => k_is); (case c_pace => k_is); (case k_pace => k_is); (case a_law_bag => k_is); (case l_law_bag => k_is); (case c_law_bag => k_is); (case k_law_bag => k_is); (case a_law_draw => k_is); (case l_law_draw => k_is); (case c_law_draw => k_is); (case k_law_draw => k_is); (case a_law_round => k_is); (case l_law_round => k_is); (case c_law_round => k_is); (case k_law_round => k_is); (case a_law_rule => k_is); (case l_law_rule => k_is); (case c_law_rule => k_is); (case k_law_rule => k_is); (case a_law_board => k_is); (case l_law_board => k_is); (case c_law_board => k_is); (case k_law_board => k_is); (case a_law_table => k_is); (case l_law_table => k_is); (case c_law_table => k_is); (case k_law_table => k_is); (case a_law_standing => k_is); (case l_law_standing => k_is); (case c_law_standing => k_is); (case k_law_standing => k_is); (case a_law_exchanged => k_is); (case l_law_exchanged => k_is); (case c_law_exchanged => k_is); (case k_law_exchanged => k_is); (case a_law => k_is); (case l_law => k_is); (case c_law => k_is); (case k_law => k_is); (case a_Board_init => k_is); (case i_Board_init => k_is); (case l_Board_init => k_is); (case c_Board_init => k_is); (case k_Board_init => k_is); (case a_Board_eq => k_is); (case i_Board_eq => k_is); (case l_Board_eq => k_is); (case c_Board_eq => k_is); (case k_Board_eq => k_is); (case a_Board_first => k_is); (case i_Board_first => k_is); (case l_Board_first => k_is); (case c_Board_first => k_is); (case k_Board_first => k_is); (case a_Board_second => k_is); (case i_Board_second => k_is); (case l_Board_second => k_is); (case c_Board_second => k_is); (case k_Board_second => k_is); (case a_Board_rule => k_is); (case i_Board_rule => k_is); (case l_Board_rule => k_is); (case c_Board_rule => k_is); (case k_Board_rule => k_is); (case a_Board_word_at => k_is); (case i_Board_word_at => k_is); (case l_Board_word_at => k_is); (case c_Board_word_at => k_is); (case k_Board_word_at => k_is); (case a_Board_go => k_is); (case i_Board_go => k_is); (case l_Board_go => k_is); (case c_Board_go => k_is); (case k_Board_go => k_is); (case v_FIRST => k_is); (case v_SECOND => k_is); (case v_OTHER => k_is); (case v_WORDS => k_is); (case l_WORDS => k_is); (case v_TURNED => k_is); (case l_TURNED => k_is); (case h_TURNED => exact ⟨⟨_, _, rfl, rfl⟩, ⟨_, _, rfl, rfl⟩, ⟨_, _, rfl, rfl⟩, trivial⟩); (case e_TURNED_0 => k_is); (case e_TURNED_1 => k_is); (case e_TURNED_2 => k_is); (case ca_Board => k_is); (case cn_Board => k_is); (case ct_Board => k_is); (case mr_Board => k_is); (case nq_Board => k_is); (case ob_Board => k_is); (case y_enumerate => k_is); (case y_sorted => k_is); (case y_dict => k_is); (case y_range => k_is); (case y_len => k_is); (case y_divmod => k_is); (case y_list => k_is); (case y_min => k_is); (case y_isinstance => k_is); (case y_abs => k_is); (case y_int => k_is)


