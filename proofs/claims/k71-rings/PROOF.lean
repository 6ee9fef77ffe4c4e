import PyProof.Rows.All
import Wide.All
import OpenK.AllK
import Wide.FinOn
import HandS.ForMost
import HandS.Exc
import HandS.TryOnly
import HandS.ExcOwn
import HandS.ExcInit
import HandS.Defaults
import HandS.DictComp
import HandS.Deep
import HandS.TupSets
import KE.DataMinMax
import HandS.HeadHook2
import HandS.Style
import HandS.WordsDict
import HandS.Small
import HandS.CallSlots
import HandS.Conv
import HandS.HeadEnd
import HandS.Words
import HandS.Ends
import KE.KStateDown
import HandS.Head0
import HandS.Head1
import HandS.Head2
import PySem.Challenge.RW_fullseats_k71_rings_of_logs
set_option Elab.async false
set_option linter.all false
set_option maxRecDepth 100000
set_option maxHeartbeats 0
/-! MiniPy: a small language of values without addresses for tuples; its form, its heap, its big steps -/
namespace Mp
open PySem PySem.Spec PyProof.Rows L2

/-! ### values, heaps -/
inductive PV where
  | non | bl (b : Bool) | int (i : Int) | str (x : Str) | tup (xs : List PV) | ref (m : Nat)
  | fz (xs : List PV)
deriving Inhabited
inductive MO where
  | lst (xs : List PV) | dict (kvs : List (Key × PV)) | ins (c : Nat) (fs : List (Nat × PV))
deriving Inhabited
structure MH where
  nx : Nat
  get : Nat → Option MO
def MH.put (h : MH) (m : Nat) (o : MO) : MH := ⟨h.nx, fun k => if k = m then some o else h.get k⟩
def MH.new (h : MH) (o : MO) : MH := ⟨h.nx + 1, fun k => if k = h.nx then some o else h.get k⟩
theorem MH.put_same {h : MH} {m : Nat} {o : MO} : (h.put m o).get m = some o := if_pos rfl
theorem MH.put_ne {h : MH} {m k : Nat} {o : MO} (e : k ≠ m) : (h.put m o).get k = h.get k := if_neg e
theorem MH.new_same {h : MH} {o : MO} : (h.new o).get h.nx = some o := if_pos rfl
theorem MH.new_ne {h : MH} {k : Nat} {o : MO} (e : k ≠ h.nx) : (h.new o).get k = h.get k := if_neg e
abbrev Ev := List (Option PV)
def big : Nat := 1000000
theorem big_line : big ≤ sizeLine := by rw [sizeLine_eq]; decide

/-! ### what a value of ours is in the abstract heap: ρ tells the address of each of our objects -/
section
variable (K : PySem.W.Frag) (ρ : List Addr) (H : Hp)
/-- a tuple that stands: not one of our objects -/
def TupAt (a : Addr) (us : List V) : Prop := (a ∉ ρ ∧ Rd H a (.tup us)) ∨
  ∃ (o : Obj) (its : Array Value) (n : Nat), K.lookup a = some o ∧ o.cls = .type "tuple" ∧ o.data = .seq its n ∧ its.size ≤ sizeLine ∧ Vals us its.toList
def FzAt (a : Addr) (us : List V) : Prop := (a ∉ ρ ∧ Rd H a (.lst us)) ∨
  ∃ (o : Obj) (its : Array Value) (n : Nat), K.lookup a = some o ∧ o.cls = .type "list" ∧ o.dict = none ∧ o.data = .seq its n ∧ its.size ≤ sizeLine ∧ Vals us its.toList
mutual
def RV : PV → V → Prop
  | .non, u => u = .non
  | .bl b, u => u = .bl b
  | .int i, u => u = .int i
  | .str x, u => u = .str x
  | .tup xs, u => ∃ a us, u = .ref a ∧ TupAt K ρ H a us ∧ RVs xs us
  | .ref m, u => ∃ a, u = .ref a ∧ ρ[m]? = some a
  | .fz xs, u => ∃ a us, u = .ref a ∧ FzAt K ρ H a us ∧ RVs xs us
def RVs : List PV → List V → Prop
  | [], us => us = []
  | x :: xs, us => ∃ u r, us = u :: r ∧ RV x u ∧ RVs xs r
end
end
theorem TupAt.sq {K : PySem.W.Frag} {ρ : List Addr} {H : Hp} {a : Addr} {us : List V} (t : TupAt K ρ H a us) : SqT K H a us := by
  rcases t with ⟨_, t⟩ | t
  · exact .inl t
  · exact .inr t
theorem FzAt.sq {K : PySem.W.Frag} {ρ : List Addr} {H : Hp} {a : Addr} {us : List V} (t : FzAt K ρ H a us) : SqL K H a us := by
  rcases t with ⟨_, t⟩ | t
  · exact .inl t
  · exact .inr t
/-- from one state to a later one: more objects of ours; what is not ours stands -/
structure Ext (ρ ρ' : List Addr) (H H' : Hp) : Prop where
  pre : ∀ (m : Nat) (a : Addr), ρ[m]? = some a → ρ'[m]? = some a
  fr : ∀ a o, a ∉ ρ → H a = some o → a ∉ ρ' ∧ H' a = some o
theorem Ext.refl (ρ : List Addr) (H : Hp) : Ext ρ ρ H H := ⟨fun _ _ e => e, fun _ _ n e => ⟨n, e⟩⟩
theorem Ext.trans {ρ ρ1 ρ2 : List Addr} {H H1 H2 : Hp} (a : Ext ρ ρ1 H H1) (b : Ext ρ1 ρ2 H1 H2) : Ext ρ ρ2 H H2 :=
  ⟨fun m x e => b.pre m x (a.pre m x e), fun x o n e => let ⟨n1, e1⟩ := a.fr x o n e; b.fr x o n1 e1⟩
theorem TupAt.ext {K : PySem.W.Frag} {ρ ρ' : List Addr} {H H' : Hp} {a : Addr} {us : List V} (t : TupAt K ρ H a us) (e : Ext ρ ρ' H H') : TupAt K ρ' H' a us := by
  rcases t with ⟨n, t⟩ | t
  · rcases t with t | ⟨o, t⟩
    · exact .inl ⟨(e.fr _ _ n t).1, .inl (e.fr _ _ n t).2⟩
    · exact .inl ⟨(e.fr _ _ n t).1, .inr ⟨o, (e.fr _ _ n t).2⟩⟩
  · exact .inr t
theorem FzAt.ext {K : PySem.W.Frag} {ρ ρ' : List Addr} {H H' : Hp} {a : Addr} {us : List V} (t : FzAt K ρ H a us) (e : Ext ρ ρ' H H') : FzAt K ρ' H' a us := by
  rcases t with ⟨n, t⟩ | t
  · rcases t with t | ⟨o, t⟩
    · exact .inl ⟨(e.fr _ _ n t).1, .inl (e.fr _ _ n t).2⟩
    · exact .inl ⟨(e.fr _ _ n t).1, .inr ⟨o, (e.fr _ _ n t).2⟩⟩
  · exact .inr t
section
variable {K : PySem.W.Frag} {ρ ρ' : List Addr} {H H' : Hp}
mutual
theorem RV.ext (e : Ext ρ ρ' H H') : ∀ {v : PV} {u : V}, RV K ρ H v u → RV K ρ' H' v u
  | .non, _, r => r
  | .bl _, _, r => r
  | .int _, _, r => r
  | .str _, _, r => r
  | .tup xs, u, r => by
    obtain ⟨a, us, eu, t, rs⟩ := (show ∃ a us, u = .ref a ∧ TupAt K ρ H a us ∧ RVs K ρ H xs us from r)
    exact ⟨a, us, eu, t.ext e, RVs.ext e rs⟩
  | .ref m, u, r => by
    obtain ⟨a, eu, t⟩ := (show ∃ a, u = .ref a ∧ ρ[m]? = some a from r)
    exact ⟨a, eu, e.pre m a t⟩
  | .fz xs, u, r => by
    obtain ⟨a, us, eu, t, rs⟩ := (show ∃ a us, u = .ref a ∧ FzAt K ρ H a us ∧ RVs K ρ H xs us from r)
    exact ⟨a, us, eu, t.ext e, RVs.ext e rs⟩
theorem RVs.ext (e : Ext ρ ρ' H H') : ∀ {vs : List PV} {us : List V}, RVs K ρ H vs us → RVs K ρ' H' vs us
  | [], _, r => r
  | x :: xs, us, r => by
    obtain ⟨u, t, eu, r1, r2⟩ := (show ∃ u r, us = u :: r ∧ RV K ρ H x u ∧ RVs K ρ H xs r from r)
    exact ⟨u, t, eu, RV.ext e r1, RVs.ext e r2⟩
end
theorem RVs.len : ∀ {vs : List PV} {us : List V}, RVs K ρ H vs us → vs.length = us.length
  | [], _, r => by cases (show _ = [] from r); rfl
  | x :: xs, us, r => by
    obtain ⟨u, t, rfl, _, r2⟩ := (show ∃ u r, us = u :: r ∧ RV K ρ H x u ∧ RVs K ρ H xs r from r)
    rw [List.length_cons, List.length_cons, RVs.len r2]
theorem RVs.get : ∀ {vs : List PV} {us : List V} {i : Nat} {v : PV}, RVs K ρ H vs us → vs[i]? = some v → ∃ u, us[i]? = some u ∧ RV K ρ H v u
  | [], _, _, _, _, e => by simp at e
  | x :: xs, us, 0, v, r, e => by
    obtain ⟨u, t, rfl, r1, _⟩ := (show ∃ u r, us = u :: r ∧ RV K ρ H x u ∧ RVs K ρ H xs r from r)
    simp at e
    subst e
    exact ⟨u, rfl, r1⟩
  | x :: xs, us, i + 1, v, r, e => by
    obtain ⟨u, t, rfl, _, r2⟩ := (show ∃ u r, us = u :: r ∧ RV K ρ H x u ∧ RVs K ρ H xs r from r)
    obtain ⟨w, h1, h2⟩ := RVs.get (i := i) r2 (by simpa using e)
    exact ⟨w, by simpa using h1, h2⟩
theorem RVs.app : ∀ {vs ws : List PV} {us ts : List V}, RVs K ρ H vs us → RVs K ρ H ws ts → RVs K ρ H (vs ++ ws) (us ++ ts)
  | [], _, _, _, r, s => by cases (show _ = [] from r); exact s
  | x :: xs, ws, us, ts, r, s => by
    obtain ⟨u, t, rfl, r1, r2⟩ := (show ∃ u r, us = u :: r ∧ RV K ρ H x u ∧ RVs K ρ H xs r from r)
    exact ⟨u, t ++ ts, rfl, r1, RVs.app r2 s⟩
theorem RVs.one {v : PV} {u : V} (r : RV K ρ H v u) : RVs K ρ H [v] [u] := ⟨u, [], rfl, r, rfl⟩
theorem RVs.cons {v : PV} {u : V} {vs : List PV} {us : List V} (r : RV K ρ H v u) (s : RVs K ρ H vs us) : RVs K ρ H (v :: vs) (u :: us) := ⟨u, us, rfl, r, s⟩
theorem RVs.inv {v : PV} {vs : List PV} {us : List V} (r : RVs K ρ H (v :: vs) us) : ∃ u ws, us = u :: ws ∧ RV K ρ H v u ∧ RVs K ρ H vs ws := r
theorem RVs.nil_inv {us : List V} (r : RVs K ρ H [] us) : us = [] := r
theorem RVs.take : ∀ {vs : List PV} {us : List V} (n : Nat), RVs K ρ H vs us → RVs K ρ H (vs.take n) (us.take n)
  | _, _, 0, _ => by simp; rfl
  | [], us, n + 1, r => by cases (show us = [] from r); simp; rfl
  | x :: xs, us, n + 1, r => by
    obtain ⟨u, t, rfl, r1, r2⟩ := RVs.inv r
    exact ⟨u, t.take n, rfl, r1, RVs.take n r2⟩
theorem RVs.drop : ∀ {vs : List PV} {us : List V} (n : Nat), RVs K ρ H vs us → RVs K ρ H (vs.drop n) (us.drop n)
  | _, _, 0, r => r
  | [], us, n + 1, r => by cases (show us = [] from r); simp; rfl
  | x :: xs, us, n + 1, r => by
    obtain ⟨u, t, rfl, r1, r2⟩ := RVs.inv r
    exact RVs.drop n r2
theorem RVs.set {v : PV} {u : V} (r : RV K ρ H v u) : ∀ {vs : List PV} {us : List V} (i : Nat), RVs K ρ H vs us → RVs K ρ H (vs.set i v) (us.set i u)
  | [], us, _, s => by cases (show us = [] from s); exact rfl
  | x :: xs, us, 0, s => by
    obtain ⟨w, t, rfl, r1, r2⟩ := RVs.inv s
    exact ⟨u, t, rfl, r, r2⟩
  | x :: xs, us, i + 1, s => by
    obtain ⟨w, t, rfl, r1, r2⟩ := RVs.inv s
    exact ⟨w, t.set i u, rfl, r1, RVs.set r i r2⟩
theorem RVs.rev : ∀ {vs : List PV} {us : List V}, RVs K ρ H vs us → RVs K ρ H vs.reverse us.reverse
  | [], us, s => by cases (show us = [] from s); exact rfl
  | x :: xs, us, s => by
    obtain ⟨w, t, rfl, r1, r2⟩ := RVs.inv s
    rw [List.reverse_cons, List.reverse_cons]
    exact RVs.app (RVs.rev r2) (RVs.one r1)
end
/-! ### objects -/
section
variable (K : PySem.W.Frag) (nm : List Str) (cl : Nat → Option Addr) (ρ : List Addr) (H : Hp)
abbrev KR : List (Key × PV) → List (Key × V) → Prop := Paired fun p q => p.1 = q.1 ∧ RV K ρ H p.2 q.2
abbrev FR : List (Nat × PV) → List (Str × V) → Prop := Paired fun p q => nm[p.1]? = some q.1 ∧ RV K ρ H p.2 q.2
def MOk (a : Addr) : MO → Prop
  | .lst xs => ∃ us, RVs K ρ H xs us ∧ H a = some (.lst us)
  | .dict kvs => ∃ ku, KR K ρ H kvs ku ∧ H a = some (.dK ku)
  | .ins c fs => ∃ C dx fu, cl c = some C ∧ FR K nm ρ H fs fu ∧ H a = some (.ins C dx fu)
structure SimH (h : MH) : Prop where
  len : ρ.length = h.nx
  nd : ρ.Nodup
  ob : ∀ (m : Nat) (a : Addr), ρ[m]? = some a → ∃ o, h.get m = some o ∧ MOk K nm cl ρ H a o
  no : ∀ m, h.nx ≤ m → h.get m = none
end
section
variable {K : PySem.W.Frag} {nm : List Str} {cl : Nat → Option Addr} {ρ ρ' : List Addr} {H H' : Hp} {h : MH}
theorem KR.ext (e : Ext ρ ρ' H H') {l : List (Key × PV)} {r : List (Key × V)} (k : KR K ρ H l r) : KR K ρ' H' l r := Paired.mapP k fun _ _ z => ⟨z.1, z.2.ext e⟩
theorem FR.ext (e : Ext ρ ρ' H H') {l : List (Nat × PV)} {r : List (Str × V)} (k : FR K nm ρ H l r) : FR K nm ρ' H' l r := Paired.mapP k fun _ _ z => ⟨z.1, z.2.ext e⟩
theorem MOk.ext (e : Ext ρ ρ' H H') {a : Addr} {o : MO} (s : H' a = H a) (k : MOk K nm cl ρ H a o) : MOk K nm cl ρ' H' a o := by
  cases o with
  | lst xs => obtain ⟨us, r, q⟩ := k; exact ⟨us, r.ext e, s.trans q⟩
  | dict kvs => obtain ⟨ku, r, q⟩ := k; exact ⟨ku, KR.ext e r, s.trans q⟩
  | ins c fs => obtain ⟨C, dx, fu, hc, r, q⟩ := k; exact ⟨C, dx, fu, hc, FR.ext e r, s.trans q⟩
/-- what stands at an object of ours is no tuple, not locked, no dict of one -/
def Ours : HO → Prop
  | .lst _ => True
  | .dK _ => True
  | .ins _ _ _ => True
  | _ => False
theorem MOk.some {a : Addr} {o : MO} (k : MOk K nm cl ρ H a o) : ∃ u, H a = some u ∧ Ours u := by
  cases o with
  | lst xs => obtain ⟨us, r, q⟩ := k; exact ⟨_, q, True.intro⟩
  | dict kvs => obtain ⟨ku, r, q⟩ := k; exact ⟨_, q, True.intro⟩
  | ins c fs => obtain ⟨C, dx, fu, hc, r, q⟩ := k; exact ⟨_, q, True.intro⟩
/-- the object of ours at m -/
theorem SimH.at (S : SimH K nm cl ρ H h) {m : Nat} {a : Addr} {o : MO} (e : ρ[m]? = some a) (g : h.get m = some o) : MOk K nm cl ρ H a o := by
  obtain ⟨o', g', k⟩ := S.ob m a e
  rw [g] at g'
  cases g'
  exact k
theorem SimH.addr (S : SimH K nm cl ρ H h) {m : Nat} {o : MO} (g : h.get m = some o) : ∃ a, ρ[m]? = some a ∧ MOk K nm cl ρ H a o := by
  have lt : m < ρ.length := by
    rw [S.len]
    refine Nat.lt_of_not_le fun q => ?_
    rw [S.no m q] at g
    cases g
  exact ⟨ρ[m], List.getElem?_eq_getElem lt, S.at (List.getElem?_eq_getElem lt) g⟩
theorem SimH.notin (S : SimH K nm cl ρ H h) {p : Addr} (n : H p = none) : p ∉ ρ := fun z => by
  obtain ⟨m, e⟩ := List.getElem?_of_mem z
  obtain ⟨o, _, k⟩ := S.ob m p e
  obtain ⟨u, q, _⟩ := k.some
  rw [n] at q
  cases q
/-- a new tuple (or another thing that is not ours) is laid at p -/
theorem Ext.fresh (S : SimH K nm cl ρ H h) {p : Addr} {o : HO} (n : H p = none) : Ext ρ ρ H (upd H p o) :=
  ⟨fun _ _ e => e, fun a u na e => ⟨na, by rw [upd_ne (ne_of_none e n)]; exact e⟩⟩
theorem SimH.fresh (S : SimH K nm cl ρ H h) {p : Addr} {o : HO} (n : H p = none) : SimH K nm cl ρ (upd H p o) h :=
  ⟨S.len, S.nd, fun m a e => by
    obtain ⟨ob, g, k⟩ := S.ob m a e
    obtain ⟨u, q, _⟩ := k.some
    exact ⟨ob, g, k.ext (Ext.fresh S n) (upd_ne (ne_of_none q n))⟩, S.no⟩
theorem RV.newTup (S : SimH K nm cl ρ H h) {p : Addr} {xs : List PV} {us : List V} (n : H p = none) (r : RVs K ρ H xs us) : RV K ρ (upd H p (.tup us)) (.tup xs) (.ref p) :=
  ⟨p, us, rfl, .inl ⟨S.notin n, .inl upd_same⟩, r.ext (Ext.fresh S n)⟩
/-- a new object of ours is laid at p -/
theorem Ext.laid (S : SimH K nm cl ρ H h) {p : Addr} {o : HO} (n : H p = none) : Ext ρ (ρ ++ [p]) H (upd H p o) :=
  by
  refine ⟨fun m a e => ?_, fun a u na e => ⟨fun z => ?_, ?_⟩⟩
  · have lt : m < ρ.length := (List.getElem?_eq_some_iff.mp e).1
    rw [List.getElem?_append_left lt]
    exact e
  · rcases List.mem_append.mp z with z | z
    · exact na z
    · have z' : a = p := by simpa using z
      rw [z', n] at e
      cases e
  · rw [upd_ne (ne_of_none e n)]
    exact e
theorem getLast_app {ρ : List Addr} {p : Addr} : (ρ ++ [p])[ρ.length]? = some p := by simp
theorem SimH.laid (S : SimH K nm cl ρ H h) {p : Addr} {o : HO} {mo : MO} (n : H p = none) (k : MOk K nm cl (ρ ++ [p]) (upd H p o) p mo) : SimH K nm cl (ρ ++ [p]) (upd H p o) (h.new mo) := by
  refine ⟨by simp [S.len, MH.new], ?_, fun m a e => ?_, fun m hm => ?_⟩
  · refine List.nodup_append.mpr ⟨S.nd, by simp, fun a ha b hb z => ?_⟩
    have hb' : b = p := by simpa using hb
    rw [z, hb'] at ha
    exact S.notin n ha
  · by_cases lt : m < ρ.length
    · have e' : ρ[m]? = some a := by rw [List.getElem?_append_left lt] at e; exact e
      obtain ⟨ob, g, q⟩ := S.ob m a e'
      obtain ⟨u, qu, _⟩ := q.some
      refine ⟨ob, ?_, q.ext (Ext.laid S n) (upd_ne (ne_of_none qu n))⟩
      rw [MH.new_ne (by rw [← S.len]; omega)]
      exact g
    · have e2 : m = ρ.length := by
        have := (List.getElem?_eq_some_iff.mp e).1
        simp at this
        omega
      subst e2
      rw [getLast_app] at e
      cases e
      refine ⟨mo, ?_, k⟩
      rw [S.len]
      exact MH.new_same
  · have hm' : h.nx + 1 ≤ m := hm
    rw [MH.new_ne (by omega)]
    exact S.no m (by omega)
/-- an object of ours is written -/
theorem Ext.wrote (S : SimH K nm cl ρ H h) {m : Nat} {a : Addr} {o : HO} (e : ρ[m]? = some a) : Ext ρ ρ H (upd H a o) :=
  by
  refine ⟨fun _ _ q => q, fun b u nb q => ⟨nb, ?_⟩⟩
  have ne : b ≠ a := fun z => nb (by rw [z]; exact List.mem_of_getElem? e)
  rw [upd_ne ne]
  exact q
theorem SimH.wrote (S : SimH K nm cl ρ H h) {m : Nat} {a : Addr} {o : HO} {mo : MO} (e : ρ[m]? = some a) (k : MOk K nm cl ρ (upd H a o) a mo) : SimH K nm cl ρ (upd H a o) (h.put m mo) := by
  have mlt : m < h.nx := by rw [← S.len]; exact (List.getElem?_eq_some_iff.mp e).1
  refine ⟨S.len, S.nd, fun j b q => ?_, fun j hj => ?_⟩
  · by_cases hjm : j = m
    · subst hjm
      rw [e] at q
      cases q
      exact ⟨mo, MH.put_same, k⟩
    · obtain ⟨ob, g, z⟩ := S.ob j b q
      refine ⟨ob, by rw [MH.put_ne hjm]; exact g, z.ext (Ext.wrote S e) (upd_ne fun ba => hjm ?_)⟩
      subst ba
      have h1 := (List.getElem?_eq_some_iff.mp q).1
      have h2 := (List.getElem?_eq_some_iff.mp e).1
      have e1 := (List.getElem?_eq_some_iff.mp q).2
      have e2 := (List.getElem?_eq_some_iff.mp e).2
      exact (List.getElem_inj S.nd).mp (e1.trans e2.symm)
  · rw [MH.put_ne (by have : h.nx ≤ j := hj; omega)]
    exact S.no j hj
end
end Mp
namespace Mp
open PySem PySem.Spec L2

/-! ### the form -/
mutual
inductive ME where
  | loc (i : Nat) | cst (v : PV) | gv (v : PV)
  | fld (e : ME) (f : Nat)
  | bin (op : Nat) (a b : ME) | neg (a : ME) | not (a : ME)
  | andE (a b : ME) | orE (a b : ME)
  | cmp (op : Nat) (a b : ME)
  | call (f : Nat) (as : List ME) | make (c : Nat) (as : List ME) | meth (o : ME) (m : Nat) (as : List ME)
  | bf (id : Nat) (as : List ME) | bm (id : Nat) (o : ME) (as : List ME)
  | lenset (e : ME)
  | lrg (a : ME) | lrg2 (a b : ME)
  | sub (a i : ME) | slc (a : ME) (lo hi : Option ME) | rev (a : ME)
  | tup (es : List ME) | lst (es : List ME)
  | lcomp (own : List Nat) (elt : ME) (t : MT) (it : MI) (ifs : List ME)
  | lcomp2 (own vs1 : List Nat) (elt : ME) (t : MT) (it : MI) (ifs : List ME) (t1 : MT) (it1 : MI) (ifs1 : List ME)
  | dcomp (own : List Nat) (k v : ME) (t : MT) (it : MI) (ifs : List ME)
  | ife (c a b : ME)
inductive MI where
  | ex (e : ME) | rg1 (a : ME) | rg2 (a b : ME) | enu (a : ME)
inductive MT where
  | nm (i : Nat) | tp (ts : List MT) | at (o : ME) (f : Nat) | ix (o i : ME)
end
inductive MS where
  | asg (t : MT) (e : ME)
  | ex (e : ME) | ret (e : ME) | retN
  | ifs (c : ME) (a b : List MS)
  | for (t : MT) (it : MI) (body : List MS)
  | while (c : ME) (body : List MS)
  | raise (c : Nat) (as : List ME)
  | tryE (body : List MS) (c : Nat) (suite : List MS)
  | pass | brk | cont | nev
mutual
def MT.nms : MT → List Nat
  | .nm i => [i]
  | .tp ts => MT.nmss ts
  | .at _ _ => []
  | .ix _ _ => []
def MT.nmss : List MT → List Nat
  | [] => []
  | t :: r => t.nms ++ MT.nmss r
end
/-- a def: its place among the globals or a class's methods, its statement, its names by slot, how many parameters, its body -/
structure Fn where
  name : Str
  cls : Option Str
  qual : Str
  st : Stmt
  N : List Str
  k : Nat
  body : List MS
structure Cl where
  name : Str
  ms : List (Nat × Nat)
  fl : List Nat
  exc : Option (List Nat)
structure Tab where
  nm : List Str
  fns : List Fn
  cls : List Cl
/-- what a walk is of -/
inductive IT where
  | live (m : Nat) | tup (xs : List PV) | fz (xs : List PV) | rng (lo : Int) (n : Nat) | enu (m : Nat)
inductive Fl where
  | nx (σ : Ev) (h : MH) | rt (v : PV) (h : MH) | bk (σ : Ev) (h : MH) | ct (σ : Ev) (h : MH) | ex (c : Nat) (fs : List (Nat × PV)) (σ : Ev) (h : MH)
inductive Res where
  | ok (v : PV) (h : MH) | ex (c : Nat) (fs : List (Nat × PV)) (h : MH)
inductive J where
  | e (d : Nat) (e : ME) (σ : Ev) (h : MH) (v : PV) (h' : MH)
  | x (d : Nat) (e : ME) (σ : Ev) (h : MH) (c : Nat) (fs : List (Nat × PV)) (h' : MH)
  | es (d : Nat) (e : List ME) (σ : Ev) (h : MH) (v : List PV) (h' : MH)
  | t (d : Nat) (e : ME) (σ : Ev) (h : MH) (b : Bool) (h' : MH)
  | i (d : Nat) (it : MI) (σ : Ev) (h : MH) (r : IT) (h' : MH)
  | g (d : Nat) (t : MT) (v : PV) (σ : Ev) (h : MH) (σ' : Ev) (h' : MH)
  | gs (d : Nat) (t : List MT) (v : List PV) (σ : Ev) (h : MH) (σ' : Ev) (h' : MH)
  | s (d : Nat) (s : MS) (σ : Ev) (h : MH) (f : Fl)
  | ss (d : Nat) (s : List MS) (σ : Ev) (h : MH) (f : Fl)
  | fo (d : Nat) (t : MT) (r : IT) (i : Nat) (b : List MS) (σ : Ev) (h : MH) (f : Fl)
  | wh (d : Nat) (c : ME) (b : List MS) (σ : Ev) (h : MH) (f : Fl)
  | cl (d : Nat) (f : Nat) (vs : List PV) (h : MH) (r : Res)
  | cp (d : Nat) (elt : ME) (own : List Nat) (t : MT) (ifs : List ME) (r : IT) (i D : Nat) (σ : Ev) (h h' : MH)
  | cq (d : Nat) (elt : ME) (own vs1 : List Nat) (t : MT) (ifs : List ME) (t1 : MT) (it1 : MI) (ifs1 : List ME) (r : IT) (i D : Nat) (σ : Ev) (h h' : MH)
  | dp (d : Nat) (k v : ME) (own : List Nat) (t : MT) (ifs : List ME) (r : IT) (i D : Nat) (σ : Ev) (h h' : MH)
  | ts (d : Nat) (ifs : List ME) (σ : Ev) (h : MH) (b : Bool) (h' : MH)
/-! ### the walks -/
def IT.len (h : MH) : IT → Option Nat
  | .live m => match h.get m with | some (.lst xs) => some xs.length | _ => none
  | .enu m => match h.get m with | some (.lst xs) => some xs.length | _ => none
  | .tup xs => some xs.length
  | .fz xs => some xs.length
  | .rng _ n => some n
def IT.at (h : MH) (i : Nat) : IT → Option PV
  | .live m => match h.get m with | some (.lst xs) => xs[i]? | _ => none
  | .enu m => match h.get m with | some (.lst xs) => (xs[i]?).map fun v => .tup [.int i, v] | _ => none
  | .tup xs => xs[i]?
  | .fz xs => xs[i]?
  | .rng lo n => if i < n then some (.int (lo + i)) else none
def wipeM : List Nat → Ev → Ev
  | [], σ => σ
  | v :: vs, σ => (wipeM vs σ).set v none
/-! ### operations -/
def lookF (f : Nat) : List (Nat × PV) → Option PV
  | [] => none
  | (k, v) :: r => if k = f then some v else lookF f r
def putM (f : Nat) (v : PV) : List (Nat × PV) → List (Nat × PV)
  | [] => [(f, v)]
  | (k, u) :: r => if k = f then (k, v) :: r else (k, u) :: putM f v r
def keyOf : PV → Option Key
  | .int i => some (.inl i)
  | .str x => some (.inr x)
  | _ => none
def lookK (k : Key) (kvs : List (Key × PV)) : Option PV := (kvs.find? fun kv => decide (kv.1 = k)).map (·.2)
def putK (k : Key) (v : PV) (kvs : List (Key × PV)) : List (Key × PV) :=
  if (kvs.any fun kv => decide (kv.1 = k)) = true then kvs.map (fun kv => if kv.1 = k then (kv.1, v) else kv) else kvs ++ [(k, v)]
/-- items of a list or a tuple, read -/
def seqM (h : MH) : PV → Option (List PV)
  | .tup xs => some xs
  | .fz xs => some xs
  | .ref m => match h.get m with | some (.lst xs) => some xs | _ => none
  | _ => none
def intsM : List PV → Option (List Int)
  | [] => some []
  | .int i :: r => (intsM r).map (i :: ·)
  | _ => none
def blsM : List PV → Option (List Bool)
  | [] => some []
  | .bl i :: r => (blsM r).map (i :: ·)
  | _ => none
def tupsM : List PV → Option (List (List Int))
  | [] => some []
  | .tup xs :: r => (intsM xs).bind fun is => (tupsM r).map (is :: ·)
  | _ => none
/-- a value as data -/
def mapO {α β : Type} (f : α → Option β) : List α → Option (List β)
  | [] => some []
  | v :: r => match f v with
    | some d => (match mapO f r with | some ds => some (d :: ds) | none => none)
    | none => none
def pydM (h : MH) : Nat → PV → Option PyData
  | 0, _ => none
  | n + 1, v => match v with
    | .non => some .none
    | .bl b => some (.bool b)
    | .int i => some (.int i)
    | .str x => some (.str x)
    | .tup xs => (mapO (pydM h n) xs).map .tuple
    | .fz xs => (mapO (pydM h n) xs).map .list
    | .ref m => match h.get m with
      | some (.lst xs) => (mapO (pydM h n) xs).map .list
      | _ => none
/-- both as data, within the library's measure -/
def dataM (h : MH) (v : PV) : Option PyData := match pydM h 40 v with
  | some d => if SeqAt.shaped d = true then some d else none
  | none => none
def binV (op : Nat) (x y : PV) (h : MH) : Option (PV × MH) := match op with
  | 0 => match x, y with
    | .int i, .int j => some (.int (i + j), h)
    | .str a, .str b => if a.length + b.length ≤ big then some (.str (a ++ b), h) else none
    | .tup (u :: us), .tup ws => if (u :: us).length + ws.length ≤ big then some (.tup (u :: us ++ ws), h) else none
    | .ref m, .ref k => match h.get m, h.get k with
      | some (.lst us), some (.lst ws) => if us.length + ws.length ≤ big then some (.ref h.nx, h.new (.lst (us ++ ws))) else none
      | _, _ => none
    | _, _ => none
  | 1 => match x, y with
    | .int i, .int j => some (.int (i - j), h)
    | _, _ => none
  | 2 => match x, y with
    | .int i, .int j => if (-(2 ^ 64) < i ∧ i < 2 ^ 64) ∨ (-(2 ^ 64) < j ∧ j < 2 ^ 64) then some (.int (i * j), h) else none
    | _, _ => none
  | 3 => match x, y with
    | .int i, .int j => if j ≠ 0 ∧ j.natAbs < 1073741824 then some (.int (i.fdiv j), h) else none
    | _, _ => none
  | 4 => match x, y with
    | .int i, .int j => if j ≠ 0 then some (.int (i.fmod j), h) else none
    | _, _ => none
  | 5 => match x, y with
    | .int i, .int j => if 0 ≤ j ∧ j ≤ 1000000 ∧ i.natAbs < 2 ^ 64 then some (.int (i ^ j.toNat), h) else none
    | _, _ => none
  | _ => none
/-- in -/
def inV (x y : PV) (h : MH) : Option Bool := match y with
  | .ref m => match h.get m with
    | some (.lst xs) => match dataM h x, dataM h (.ref m) with
      | some d, some (.list ds) => some (ds.any fun z => PyData.eqv z d)
      | _, _ => none
    | _ => none
  | _ => none
def isNonB : PV → Bool
  | .non => true
  | _ => false
def nonCmp (f : Bool → Bool) (x : PV) : PV → Option Bool
  | .non => some (f (isNonB x))
  | _ => none
def intCmp (f : Int → Int → Bool) : PV → PV → Option Bool
  | .int i, .int j => some (f i j)
  | _, _ => none
def cmpV (op : Nat) (x y : PV) (h : MH) : Option Bool := match op with
  | 0 => match dataM h x, dataM h y with
    | some d, some e => some (PyData.eqv d e)
    | _, _ => none
  | 1 => match dataM h x, dataM h y with
    | some d, some e => some (!PyData.eqv d e)
    | _, _ => none
  | 2 => intCmp (fun i j => decide (i < j)) x y
  | 3 => intCmp (fun i j => decide (i ≤ j)) x y
  | 4 => intCmp (fun i j => decide (j < i)) x y
  | 5 => intCmp (fun i j => decide (j ≤ i)) x y
  | 6 => inV x y h
  | 7 => (inV x y h).map (!·)
  | 8 => nonCmp (fun b => b) x y
  | 9 => nonCmp (fun b => !b) x y
  | _ => none
def truthV (v : PV) (h : MH) : Option Bool := match v with
  | .non => some false
  | .bl b => some b
  | .int i => some (i != 0)
  | .tup xs => some (!xs.isEmpty)
  | .fz xs => some (!xs.isEmpty)
  | .ref m => match h.get m with
    | some (.lst xs) => some (!xs.isEmpty)
    | some (.dict xs) => some (!xs.isEmpty)
    | _ => none
  | .str _ => none
def atV (xs : List PV) : PV → Option PV
  | .int k => atI xs k
  | _ => none
def subV (x i : PV) (h : MH) : Option PV := match x with
  | .tup xs => atV xs i
  | .fz xs => atV xs i
  | .ref m => match h.get m with
    | some (.lst xs) => atV xs i
    | _ => none
  | _ => none
def setAt (xs : List PV) (v : PV) : PV → Option (List PV)
  | .int k => (ixN xs.length k).map fun j => xs.set j v
  | _ => none
def setV (o i v : PV) (h : MH) : Option MH := match o with
  | .ref m => match h.get m with
    | some (.lst xs) => (setAt xs v i).map fun ys => h.put m (.lst ys)
    | _ => none
  | _ => none
def isNonD : PyData → Bool
  | .none => true
  | _ => false
def minOk (h : MH) (v : PV) : Bool := match dataM h v with
  | some d => PySem.W.alike d d && !isNonD d
  | none => false
/-- built-in functions by number: 0 len, 1 str, 2 int, 3 list, 4 tuple, 8 all, 9 any, 10 abs, 12 min of a list of one, 14 list(range(n)) -/
def bfn (id : Nat) (vs : List PV) (h : MH) : Option (PV × MH) := match id, vs with
  | 0, [v] => match v with
    | .ref m => match h.get m with
      | some (.lst xs) => some (.int xs.length, h)
      | some (.dict xs) => some (.int xs.length, h)
      | _ => none
    | .tup xs => some (.int xs.length, h)
    | .fz xs => some (.int xs.length, h)
    | _ => none
  | 2, [v] => match v with
    | .int i => some (.int i, h)
    | .bl b => some (.int (if b then 1 else 0), h)
    | _ => none
  | 3, [v] => match seqM h v with
    | some xs => some (.ref h.nx, h.new (.lst xs))
    | none => none
  | 4, [v] => match v with
    | .ref m => match h.get m with
      | some (.lst xs) => some (.tup xs, h)
      | _ => none
    | _ => none
  | 8, [v] => match seqM h v with
    | some xs => match v, blsM xs with
      | .ref _, some bs => some (.bl (bs.all id'), h)
      | _, _ => none
    | none => none
  | 9, [v] => match seqM h v with
    | some xs => match v, blsM xs with
      | .ref _, some bs => some (.bl (bs.any id'), h)
      | _, _ => none
    | none => none
  | 10, [.int i] => some (.int (if i < 0 then -i else i), h)
  | 12, [.ref m] => match h.get m with
    | some (.lst [v]) => if minOk h v = true then some (v, h) else none
    | _ => none
  | _, _ => none
where id' (b : Bool) : Bool := b
/-- the numbers of a range -/
def rngM (lo hi : Int) : List PV := (List.range (hi - lo).toNat).map fun i => .int (lo + (i : Nat))
/-- what a method's object is -/
def tyB (id : Nat) (o : PV) (h : MH) : Bool := match o with
  | .ref m => match h.get m with
    | some (.lst _) => true
    | _ => false
  | _ => false
/-- methods of built-in types by number: 10 list.append, 12 list.pop -/
def bmn (id : Nat) (o : PV) (vs : List PV) (h : MH) : Option (PV × MH) := match o with
  | .ref m => match h.get m with
    | some (.lst xs) => match id, vs with
      | 10, [v] => if xs.length < big then some (.non, h.put m (.lst (xs ++ [v]))) else none
      | 12, [.int i] => match ixN xs.length i with
        | some j => match xs[j]? with
          | some v => if xs.length < big then some (v, h.put m (.lst (xs.eraseIdx j))) else none
          | none => none
        | none => none
      | _, _ => none
    | _ => none
  | _ => none
def dedupM : List (List Int) → List (List Int)
  | [] => []
  | x :: r => if x ∈ r then dedupM r else x :: dedupM r
/-- len(set(xs)) of ints without two equal ones, or of tuples of ints -/
def lensetV (v : PV) (h : MH) : Option Int := match v with
  | .ref m => match h.get m with
    | some (.lst xs) => match intsM xs with
      | some is => if is.length < 64 ∧ is.Nodup then some is.length else none
      | none => match tupsM xs with
        | some ts => if ts.length < 64 then some (dedupM ts).length else none
        | none => none
    | _ => none
  | _ => none
end Mp
namespace Mp
open PySem PySem.Spec L2
/-! ### big steps -/
def Fl.go : Fl → Option (Ev × MH)
  | .nx σ h => some (σ, h)
  | .ct σ h => some (σ, h)
  | _ => none
def Fl.out : Fl → Bool
  | .rt _ _ => true
  | .ex _ _ _ _ => true
  | _ => false
def Fl.res : Fl → Option Res
  | .nx _ h => some (.ok .non h)
  | .rt v h => some (.ok v h)
  | .ex c fs _ h => some (.ex c fs h)
  | _ => none
def methF (T : Tab) (c m : Nat) : Option Nat := match T.cls[c]? with
  | some C => if C.exc.isNone = true then C.ms.lookup m else none
  | none => none
def fldF (T : Tab) (c f : Nat) : Bool := match T.cls[c]? with
  | some C => C.exc.isNone && C.fl.contains f
  | none => false
def plainT : ME → Bool
  | .loc _ => true | .fld _ _ => true | .call _ _ => true | .meth _ _ _ => true | .bf _ _ => true | .bm _ _ _ => true | .sub _ _ => true
  | _ => false
def retOf : List MS → Option PV
  | [.retN] => some .non
  | [.ret (.cst v)] => some v
  | _ => none
/-- a comprehension that is stored under a name has its own rule -/
def plainA : MT → ME → Bool
  | .nm _, .lcomp _ _ _ _ _ => false
  | .nm _, .lcomp2 _ _ _ _ _ _ _ _ _ => false
  | _, _ => true
inductive BS (T : Tab) : J → Prop where
  | loc {d i σ h v} : σ[i]? = some (some v) → BS T (.e d (.loc i) σ h v h)
  | cst {d v σ h} : BS T (.e d (.cst v) σ h v h)
  | gv {d v σ h} : BS T (.e d (.gv v) σ h v h)
  | fld {d o f σ h m h1 c fs v} : BS T (.e d o σ h (.ref m) h1) → h1.get m = some (.ins c fs) → fldF T c f = true → lookF f fs = some v → BS T (.e d (.fld o f) σ h v h1)
  | bin {d op a b σ h x h1 y h2 v h3} : BS T (.e d a σ h x h1) → BS T (.e d b σ h1 y h2) → binV op x y h2 = some (v, h3) → BS T (.e d (.bin op a b) σ h v h3)
  | neg {d a σ h i h1} : BS T (.e d a σ h (.int i) h1) → BS T (.e d (.neg a) σ h (.int (-i)) h1)
  | notE {d a σ h b h1} : BS T (.e d a σ h (.bl b) h1) → BS T (.e d (.not a) σ h (.bl (!b)) h1)
  | andT {d a b σ h h1 v h2} : BS T (.e d a σ h (.bl true) h1) → BS T (.e d b σ h1 v h2) → BS T (.e d (.andE a b) σ h v h2)
  | andF {d a b σ h h1} : BS T (.e d a σ h (.bl false) h1) → BS T (.e d (.andE a b) σ h (.bl false) h1)
  | orF {d a b σ h h1 v h2} : BS T (.e d a σ h (.bl false) h1) → BS T (.e d b σ h1 v h2) → BS T (.e d (.orE a b) σ h v h2)
  | orT {d a b σ h h1} : BS T (.e d a σ h (.bl true) h1) → BS T (.e d (.orE a b) σ h (.bl true) h1)
  | cmp {d op a b σ h x h1 y h2 r} : BS T (.e d a σ h x h1) → BS T (.e d b σ h1 y h2) → cmpV op x y h2 = some r → BS T (.e d (.cmp op a b) σ h (.bl r) h2)
  | dIn {d a b σ h x h1 m h2 kvs k} : BS T (.e d a σ h x h1) → BS T (.e d b σ h1 (.ref m) h2) → h2.get m = some (.dict kvs) → keyOf x = some k → BS T (.e d (.cmp 6 a b) σ h (.bl (lookK k kvs).isSome) h2)
  | dNotIn {d a b σ h x h1 m h2 kvs k} : BS T (.e d a σ h x h1) → BS T (.e d b σ h1 (.ref m) h2) → h2.get m = some (.dict kvs) → keyOf x = some k → BS T (.e d (.cmp 7 a b) σ h (.bl (!(lookK k kvs).isSome)) h2)
  | call {d f as σ h vs h1 v h2} : BS T (.es d as σ h vs h1) → BS T (.cl d f vs h1 (.ok v h2)) → BS T (.e d (.call f as) σ h v h2)
  | xcall {d f as σ h vs h1 c fs h2} : BS T (.es d as σ h vs h1) → BS T (.cl d f vs h1 (.ex c fs h2)) → BS T (.x d (.call f as) σ h c fs h2)
  | make {d c as σ h vs h1 f h2} : BS T (.es (d + 1) as σ h vs h1) → methF T c 0 = some f → BS T (.cl d f (.ref h1.nx :: vs) (h1.new (.ins c [])) (.ok .non h2)) → BS T (.e (d + 1) (.make c as) σ h (.ref h1.nx) h2)
  | meth {d o m as σ h a h1 c fs vs h2 f v h3} : BS T (.e d o σ h (.ref a) h1) → h1.get a = some (.ins c fs) → methF T c m = some f → lookF m fs = none →
      BS T (.es d as σ h1 vs h2) → BS T (.cl d f (.ref a :: vs) h2 (.ok v h3)) → BS T (.e d (.meth o m as) σ h v h3)
  | bf {d id as σ h vs h1 v h2} : BS T (.es d as σ h vs h1) → bfn id vs h1 = some (v, h2) → BS T (.e d (.bf id as) σ h v h2)
  | bm {d id o as σ h x h1 vs h2 v h3} : BS T (.e d o σ h x h1) → tyB id x h1 = true → BS T (.es d as σ h1 vs h2) → bmn id x vs h2 = some (v, h3) → BS T (.e d (.bm id o as) σ h v h3)
  | lenset {d e σ h v h1 n} : BS T (.e d e σ h v h1) → lensetV v h1 = some n → BS T (.e d (.lenset e) σ h (.int n) h1)
  | lrg {d a σ h j h1} : BS T (.e d a σ h (.int j) h1) → 0 ≤ j → j ≤ 1000000 → BS T (.e d (.lrg a) σ h (.ref h1.nx) (h1.new (.lst (rngM 0 j))))
  | lrg2 {d a b σ h i h1 j h2} : BS T (.e d a σ h (.int i) h1) → BS T (.e d b σ h1 (.int j) h2) → 0 ≤ i → i ≤ 1000000 → 0 ≤ j → j ≤ 1000000 → BS T (.e d (.lrg2 a b) σ h (.ref h2.nx) (h2.new (.lst (rngM i j))))
  | lenO {d a σ h m h1 c fs f n h2} : BS T (.e (d + 1) a σ h (.ref m) h1) → h1.get m = some (.ins c fs) → methF T c 4 = some f → BS T (.cl d f [.ref m] h1 (.ok (.int n) h2)) → 0 ≤ n → n < 2 ^ 63 → BS T (.e (d + 1) (.bf 0 [a]) σ h (.int n) h2)
  | sub {d a i σ h x h1 y h2 v} : BS T (.e d a σ h x h1) → BS T (.e d i σ h1 y h2) → subV x y h2 = some v → BS T (.e d (.sub a i) σ h v h2)
  | subD {d a i σ h m h1 y h2 kvs k v} : BS T (.e d a σ h (.ref m) h1) → BS T (.e d i σ h1 y h2) → h2.get m = some (.dict kvs) → keyOf y = some k → lookK k kvs = some v → BS T (.e d (.sub a i) σ h v h2)
  | subO {d a i σ h m h1 y h2 c fs f v h3} : BS T (.e (d + 1) a σ h (.ref m) h1) → BS T (.e (d + 1) i σ h1 y h2) → h2.get m = some (.ins c fs) → methF T c 5 = some f → BS T (.cl d f [.ref m, y] h2 (.ok v h3)) → BS T (.e (d + 1) (.sub a i) σ h v h3)
  | revL {d a σ h m h1 xs} : BS T (.e d a σ h (.ref m) h1) → h1.get m = some (.lst xs) → BS T (.e d (.rev a) σ h (.ref h1.nx) (h1.new (.lst xs.reverse)))
  | tup {d es σ h vs h1} : BS T (.es d es σ h vs h1) → BS T (.e d (.tup es) σ h (.tup vs) h1)
  | lst {d es σ h vs h1} : BS T (.es d es σ h vs h1) → BS T (.e d (.lst es) σ h (.ref h1.nx) (h1.new (.lst vs)))
  | ifT {d c a b σ h h1 v h2} : BS T (.t d c σ h true h1) → BS T (.e d a σ h1 v h2) → BS T (.e d (.ife c a b) σ h v h2)
  | ifF {d c a b σ h h1 v h2} : BS T (.t d c σ h false h1) → BS T (.e d b σ h1 v h2) → BS T (.e d (.ife c a b) σ h v h2)
  | lcomp {d own elt t it ifs σ h r h1 h2} : BS T (.i d it σ h r h1) → BS T (.cp d elt own t ifs r 0 h1.nx σ (h1.new (.lst [])) h2) → BS T (.e d (.lcomp own elt t it ifs) σ h (.ref h1.nx) h2)
  | lcomp2 {d own vs1 elt t it ifs t1 it1 ifs1 σ h r h1 h2} : BS T (.i d it σ h r h1) → BS T (.cq d elt own vs1 t ifs t1 it1 ifs1 r 0 h1.nx σ (h1.new (.lst [])) h2) → BS T (.e d (.lcomp2 own vs1 elt t it ifs t1 it1 ifs1) σ h (.ref h1.nx) h2)
  | dcomp {d own k v t it ifs σ h r h1 h2} : BS T (.i d it σ h r h1) → BS T (.dp d k v own t ifs r 0 h1.nx σ (h1.new (.dict [])) h2) → BS T (.e d (.dcomp own k v t it ifs) σ h (.ref h1.nx) h2)
  -- lists of expressions
  | esN {d σ h} : BS T (.es d [] σ h [] h)
  | esC {d e es σ h v h1 vs h2} : BS T (.e d e σ h v h1) → BS T (.es d es σ h1 vs h2) → BS T (.es d (e :: es) σ h (v :: vs) h2)
  -- tests
  | tN {d a σ h b h1} : BS T (.t d a σ h b h1) → BS T (.t d (.not a) σ h (!b) h1)
  | tAndT {d a b σ h h1 c h2} : BS T (.t d a σ h true h1) → BS T (.t d b σ h1 c h2) → BS T (.t d (.andE a b) σ h c h2)
  | tAndF {d a b σ h h1} : BS T (.t d a σ h false h1) → BS T (.t d (.andE a b) σ h false h1)
  | tOrF {d a b σ h h1 c h2} : BS T (.t d a σ h false h1) → BS T (.t d b σ h1 c h2) → BS T (.t d (.orE a b) σ h c h2)
  | tOrT {d a b σ h h1} : BS T (.t d a σ h true h1) → BS T (.t d (.orE a b) σ h true h1)
  | tCmp {d op a b σ h x h1 y h2 r} : BS T (.e d a σ h x h1) → BS T (.e d b σ h1 y h2) → cmpV op x y h2 = some r → BS T (.t d (.cmp op a b) σ h r h2)
  | tDIn {d a b σ h x h1 m h2 kvs k} : BS T (.e d a σ h x h1) → BS T (.e d b σ h1 (.ref m) h2) → h2.get m = some (.dict kvs) → keyOf x = some k → BS T (.t d (.cmp 6 a b) σ h (lookK k kvs).isSome h2)
  | tDNotIn {d a b σ h x h1 m h2 kvs k} : BS T (.e d a σ h x h1) → BS T (.e d b σ h1 (.ref m) h2) → h2.get m = some (.dict kvs) → keyOf x = some k → BS T (.t d (.cmp 7 a b) σ h (!(lookK k kvs).isSome) h2)
  | tV {d e σ h v h1 b} : plainT e = true → BS T (.e d e σ h v h1) → truthV v h1 = some b → BS T (.t d e σ h b h1)
  | tsN {d σ h} : BS T (.ts d [] σ h true h)
  | ts1 {d c σ h b h1} : BS T (.t d c σ h b h1) → BS T (.ts d [c] σ h b h1)
  -- walks
  | iL {d e σ h m h1 xs} : BS T (.e d e σ h (.ref m) h1) → h1.get m = some (.lst xs) → BS T (.i d (.ex e) σ h (.live m) h1)
  | iT {d e σ h xs h1} : BS T (.e d e σ h (.tup xs) h1) → BS T (.i d (.ex e) σ h (.tup xs) h1)
  | iR1 {d a σ h j h1} : BS T (.e d a σ h (.int j) h1) → -(2 ^ 62) ≤ j → j < 2 ^ 62 → BS T (.i d (.rg1 a) σ h (.rng 0 j.toNat) h1)
  | iR2 {d a b σ h i h1 j h2} : BS T (.e d a σ h (.int i) h1) → BS T (.e d b σ h1 (.int j) h2) → -(2 ^ 62) ≤ i → i < 2 ^ 62 → -(2 ^ 62) ≤ j → j < 2 ^ 62 → BS T (.i d (.rg2 a b) σ h (.rng i (j - i).toNat) h2)
  | iE {d e σ h m h1 xs} : BS T (.e d e σ h (.ref m) h1) → h1.get m = some (.lst xs) → BS T (.i d (.enu e) σ h (.enu m) h1)
  -- targets
  | gN {d i v σ h} : BS T (.g d (.nm i) v σ h (σ.set i (some v)) h)
  | gT {d ts vs σ h σ' h'} : ts.length = vs.length → BS T (.gs d ts vs σ h σ' h') → BS T (.g d (.tp ts) (.tup vs) σ h σ' h')
  | gA {d o f v σ h m h1 c fs} : BS T (.e d o σ h (.ref m) h1) → h1.get m = some (.ins c fs) → fldF T c f = true → fs.length < 900 → BS T (.g d (.at o f) v σ h σ (h1.put m (.ins c (putM f v fs))))
  | gI {d o i v σ h x h1 y h2 h3} : BS T (.e d o σ h x h1) → BS T (.e d i σ h1 y h2) → setV x y v h2 = some h3 → BS T (.g d (.ix o i) v σ h σ h3)
  | gsN {d σ h} : BS T (.gs d [] [] σ h σ h)
  | gsC {d t ts v vs σ h σ1 h1 σ2 h2} : BS T (.g d t v σ h σ1 h1) → BS T (.gs d ts vs σ1 h1 σ2 h2) → BS T (.gs d (t :: ts) (v :: vs) σ h σ2 h2)
  -- comprehensions
  | cpE {d elt own t ifs r i D σ h n} : r.len h = some n → n ≤ i → BS T (.cp d elt own t ifs r i D σ h h)
  | cpT {d elt own t ifs r i D σ h x σ2 h2 h3 v h4 acc h5} : r.at h i = some x → BS T (.g d t x (wipeM own σ) h σ2 h2) → BS T (.ts d ifs σ2 h2 true h3) → BS T (.e d elt σ2 h3 v h4) →
      h4.get D = some (.lst acc) → acc.length < big → BS T (.cp d elt own t ifs r (i + 1) D σ (h4.put D (.lst (acc ++ [v]))) h5) → BS T (.cp d elt own t ifs r i D σ h h5)
  | cpF {d elt own t ifs r i D σ h x σ2 h2 h3 h5} : r.at h i = some x → BS T (.g d t x (wipeM own σ) h σ2 h2) → BS T (.ts d ifs σ2 h2 false h3) →
      BS T (.cp d elt own t ifs r (i + 1) D σ h3 h5) → BS T (.cp d elt own t ifs r i D σ h h5)
  | dpE {d k v own t ifs r i D σ h n} : r.len h = some n → n ≤ i → BS T (.dp d k v own t ifs r i D σ h h)
  | dpT {d k v own t ifs r i D σ h x σ2 h2 h3 kv key h4 vv h5 acc h6} : r.at h i = some x → BS T (.g d t x (wipeM own σ) h σ2 h2) → BS T (.ts d ifs σ2 h2 true h3) → BS T (.e d k σ2 h3 kv h4) → keyOf kv = some key → BS T (.e d v σ2 h4 vv h5) →
      h5.get D = some (.dict acc) → acc.length < big → BS T (.dp d k v own t ifs r (i + 1) D σ (h5.put D (.dict (putK key vv acc))) h6) → BS T (.dp d k v own t ifs r i D σ h h6)
  | cqE {d elt own vs1 t ifs t1 it1 ifs1 r i D σ h n} : r.len h = some n → n ≤ i → BS T (.cq d elt own vs1 t ifs t1 it1 ifs1 r i D σ h h)
  | cqT {d elt own vs1 t ifs t1 it1 ifs1 r i D σ h x σ2 h2 h3 r1 h4 h5 h6} : r.at h i = some x → BS T (.g d t x (wipeM own σ) h σ2 h2) → BS T (.ts d ifs σ2 h2 true h3) → BS T (.i d it1 σ2 h3 r1 h4) →
      BS T (.cp d elt vs1 t1 ifs1 r1 0 D σ2 h4 h5) → BS T (.cq d elt own vs1 t ifs t1 it1 ifs1 r (i + 1) D σ h5 h6) → BS T (.cq d elt own vs1 t ifs t1 it1 ifs1 r i D σ h h6)
  | cqF {d elt own vs1 t ifs t1 it1 ifs1 r i D σ h x σ2 h2 h3 h6} : r.at h i = some x → BS T (.g d t x (wipeM own σ) h σ2 h2) → BS T (.ts d ifs σ2 h2 false h3) →
      BS T (.cq d elt own vs1 t ifs t1 it1 ifs1 r (i + 1) D σ h3 h6) → BS T (.cq d elt own vs1 t ifs t1 it1 ifs1 r i D σ h h6)
  -- statements
  | asg {d t e σ h v h1 σ2 h2} : plainA t e = true → BS T (.e d e σ h v h1) → BS T (.g d t v σ h1 σ2 h2) → BS T (.s d (.asg t e) σ h (.nx σ2 h2))
  | asgX {d t f as σ h c fs h1} : BS T (.x d (.call f as) σ h c fs h1) → BS T (.s d (.asg t (.call f as)) σ h (.ex c fs σ h1))
  | asgL {d k own elt t it ifs σ h r h1 h2} : BS T (.i d it σ h r h1) → BS T (.cp d elt own t ifs r 0 h1.nx σ (h1.new (.lst [])) h2) → BS T (.s d (.asg (.nm k) (.lcomp own elt t it ifs)) σ h (.nx (σ.set k (some (.ref h1.nx))) h2))
  | asgL2 {d k own vs1 elt t it ifs t1 it1 ifs1 σ h r h1 h2} : BS T (.i d it σ h r h1) → BS T (.cq d elt own vs1 t ifs t1 it1 ifs1 r 0 h1.nx σ (h1.new (.lst [])) h2) → BS T (.s d (.asg (.nm k) (.lcomp2 own vs1 elt t it ifs t1 it1 ifs1)) σ h (.nx (σ.set k (some (.ref h1.nx))) h2))
  | exS {d e σ h v h1} : BS T (.e d e σ h v h1) → BS T (.s d (.ex e) σ h (.nx σ h1))
  | exX {d e σ h c fs h1} : BS T (.x d e σ h c fs h1) → BS T (.s d (.ex e) σ h (.ex c fs σ h1))
  | ret {d e σ h v h1} : BS T (.e d e σ h v h1) → BS T (.s d (.ret e) σ h (.rt v h1))
  | retX {d e σ h c fs h1} : BS T (.x d e σ h c fs h1) → BS T (.s d (.ret e) σ h (.ex c fs σ h1))
  | retN {d σ h} : BS T (.s d .retN σ h (.rt .non h))
  | ifsT {d c a b σ h h1 f} : BS T (.t d c σ h true h1) → BS T (.ss d a σ h1 f) → BS T (.s d (.ifs c a b) σ h f)
  | ifsF {d c a b σ h h1 f} : BS T (.t d c σ h false h1) → BS T (.ss d b σ h1 f) → BS T (.s d (.ifs c a b) σ h f)
  | forS {d t it b σ h r h1 f} : BS T (.i d it σ h r h1) → BS T (.fo d t r 0 b σ h1 f) → BS T (.s d (.for t it b) σ h f)
  | whS {d c b σ h f} : BS T (.wh d c b σ h f) → BS T (.s d (.while c b) σ h f)
  | raise {d c as σ h vs h1 C fl} : T.cls[c]? = some C → C.exc = some fl → BS T (.es (d + 2) as σ h vs h1) → vs.length = fl.length → BS T (.s (d + 2) (.raise c as) σ h (.ex c (fl.zip vs) σ h1))
  | tryK {d b c su σ h f} : BS T (.ss d b σ h f) → (∀ c fs σ h, f ≠ .ex c fs σ h) → BS T (.s d (.tryE b c su) σ h f)
  | tryC {d b c su σ h fs σ1 h1 v} : BS T (.ss d b σ h (.ex c fs σ1 h1)) → retOf su = some v → BS T (.s d (.tryE b c su) σ h (.rt v h1))
  | pass {d σ h} : BS T (.s d .pass σ h (.nx σ h))
  | brk {d σ h} : BS T (.s d .brk σ h (.bk σ h))
  | cont {d σ h} : BS T (.s d .cont σ h (.ct σ h))
  | ssN {d σ h} : BS T (.ss d [] σ h (.nx σ h))
  | ssC {d s ss σ h σ1 h1 f} : BS T (.s d s σ h (.nx σ1 h1)) → BS T (.ss d ss σ1 h1 f) → BS T (.ss d (s :: ss) σ h f)
  | ssS {d s ss σ h f} : BS T (.s d s σ h f) → (∀ σ h, f ≠ .nx σ h) → BS T (.ss d (s :: ss) σ h f)
  | foE {d t r i b σ h n} : r.len h = some n → n ≤ i → BS T (.fo d t r i b σ h (.nx σ h))
  | foT {d t r i b σ h x σ1 h1 f1 σ2 h2 f} : r.at h i = some x → BS T (.g d t x σ h σ1 h1) → BS T (.ss d b σ1 h1 f1) → f1.go = some (σ2, h2) → BS T (.fo d t r (i + 1) b σ2 h2 f) → BS T (.fo d t r i b σ h f)
  | foB {d t r i b σ h x σ1 h1 σ2 h2} : r.at h i = some x → BS T (.g d t x σ h σ1 h1) → BS T (.ss d b σ1 h1 (.bk σ2 h2)) → BS T (.fo d t r i b σ h (.nx σ2 h2))
  | foO {d t r i b σ h x σ1 h1 f} : r.at h i = some x → BS T (.g d t x σ h σ1 h1) → BS T (.ss d b σ1 h1 f) → f.out = true → BS T (.fo d t r i b σ h f)
  | whE {d c b σ h h1} : BS T (.t d c σ h false h1) → BS T (.wh d c b σ h (.nx σ h1))
  | whT {d c b σ h h1 f1 σ2 h2 f} : BS T (.t d c σ h true h1) → BS T (.ss d b σ h1 f1) → f1.go = some (σ2, h2) → BS T (.wh d c b σ2 h2 f) → BS T (.wh d c b σ h f)
  | whB {d c b σ h h1 σ2 h2} : BS T (.t d c σ h true h1) → BS T (.ss d b σ h1 (.bk σ2 h2)) → BS T (.wh d c b σ h (.nx σ2 h2))
  | whO {d c b σ h h1 f} : BS T (.t d c σ h true h1) → BS T (.ss d b σ h1 f) → f.out = true → BS T (.wh d c b σ h f)
  | cl {d f F vs h fl r} : T.fns[f]? = some F → vs.length = F.k → BS T (.ss d F.body (vs.map some ++ List.replicate (F.N.length - vs.length) none) h fl) → fl.res = some r → BS T (.cl (d + 1) f vs h r)
end Mp
namespace Mp
open PySem PySem.Spec L2
/-! ### our form against the text's -/
structure CC where
  N : List Str
  sc : Scope
  fnc : Str → Bool
def visB (c : CC) (x : Str) : Bool := match c.sc.names.lookup x with
  | some .local => true
  | some .cell => true
  | some .free => true
  | _ => false
def okName (x : Str) : Bool := !(x == ("__debug__" : Str)) && !(x == ("__classdict__" : Str))
def slotB (c : CC) (i : Nat) (x : Str) : Bool := decide (c.N[i]? = some x) && okName x
def locB (c : CC) (x : Str) : Bool := match c.sc.names.lookup x with
  | some .local => true
  | some .cell => c.fnc x
  | _ => false
def glB (c : CC) (x : Str) : Bool := decide (c.sc.names.lookup x = some .globalImplicit) && okName x
def notSlice : Expr → Bool
  | .Slice _ _ _ _ => false
  | _ => true
def noStar1 : Expr → Bool
  | .Starred _ _ => false
  | _ => true
def baseOk : Expr → Bool
  | .Call (.Name _ _) [] [] _ => false
  | _ => true
def opOf : Nat → Option Operator
  | 0 => some .Add | 1 => some .Sub | 2 => some .Mult | 3 => some .FloorDiv | 4 => some .Mod | 5 => some .Pow
  | _ => none
def cmpOf : Nat → Option CmpOp
  | 0 => some .Eq | 1 => some .NotEq | 2 => some .Lt | 3 => some .LtE | 4 => some .Gt | 5 => some .GtE | 6 => some .In | 7 => some .NotIn | 8 => some .Is | 9 => some .IsNot
  | _ => none
def bfName : Nat → Option Str
  | 0 => some "len" | 2 => some "int" | 3 => some "list" | 4 => some "tuple" | 8 => some "all" | 9 => some "any" | 10 => some "abs" | 12 => some "min"
  | _ => none
def bmName : Nat → Option Str
  | 10 => some "append" | 12 => some "pop"
  | _ => none
def constB : PV → Const → Bool
  | .non, .none => true
  | .bl b, .bool c => b == c
  | .int i, .int j => decide (i = j)
  | .str x, .str y => decide (x = y)
  | _, _ => false
def allB2 {α β : Type} (f : α → β → Bool) : List α → List β → Bool
  | [], [] => true
  | a :: r, b :: s => f a b && allB2 f r s
  | _, _ => false
def optB2 {α β : Type} (f : α → β → Bool) : Option α → Option β → Bool
  | none, none => true
  | some a, some b => f a b
  | _, _ => false
/-- the block of a comprehension: its own names at their slots -/
def blkB (c : CC) (own : List Nat) (scope : Scope) : Bool := blkC c.N c.sc scope (own.map fun i => (c.N.getD i Str.empty, i))
def CC.blk (c : CC) (scope : Scope) : CC := { c with sc := relS scope c.sc, fnc := fun x => scope.names.lookup x == some .cell }
def notSet : Expr → Bool
  | .Set _ _ _ => false
  | _ => true
/-- enumerate is walked by a pair of targets -/
def tgOk : MI → Expr → Bool
  | .enu _, .Tuple _ _ _ => true
  | .enu _, _ => false
  | _, _ => true
def subB (a b : List Nat) : Bool := a.all (b.contains ·)
structure Ck where
  e : CC → ME → Expr → Bool
  i : CC → MI → Expr → Bool
  t : CC → MT → Expr → Bool
def argsB (f : ME → Expr → Bool) (as : List ME) (es : List Expr) : Bool := es.all noStar1 && allB2 f as es && Nat.blt es.length 20
section
variable (T : Tab)
def ckE (k : Ck) (c : CC) (m : ME) (e : Expr) : Bool := match m with
  | .loc i => (match e with | .Name x _ => slotB c i x && visB c x | _ => false)
  | .cst v => (match e with | .Constant q _ _ => constB v q | _ => false)
  | .gv _ => false
  | .fld o f => (match e with | .Attribute oe x _ => decide (T.nm[f]? = some x) && baseOk oe && k.e c o oe | _ => false)
  | .bin op a b => (match e with | .BinOp ea o eb _ => decide (opOf op = some o) && k.e c a ea && k.e c b eb | _ => false)
  | .neg a => (match e with | .UnaryOp .USub ea _ => k.e c a ea | _ => false)
  | .not a => (match e with | .UnaryOp .Not ea _ => k.e c a ea | _ => false)
  | .andE a b => (match e with
    | .BoolOp .And (ea :: eb :: rest) pos => k.e c a ea && (match rest with | [] => k.e c b eb | _ => k.e c b (.BoolOp .And (eb :: rest) pos))
    | _ => false)
  | .orE a b => (match e with
    | .BoolOp .Or (ea :: eb :: rest) pos => k.e c a ea && (match rest with | [] => k.e c b eb | _ => k.e c b (.BoolOp .Or (eb :: rest) pos))
    | _ => false)
  | .cmp op a b => (match e with
    | .Compare ea [o] [eb] _ => decide (cmpOf op = some o) && !behindInMarks o eb && k.e c a ea && k.e c b eb && (match op with | 8 => (match b with | .cst .non => true | _ => false) | 9 => (match b with | .cst .non => true | _ => false) | _ => true)
    | _ => false)
  | .call f as => (match e with
    | .Call (.Name x _) es [] _ => glB c x && (match T.fns[f]? with | some F => decide (F.name = x) && F.cls.isNone | none => false) && argsB (k.e c) as es
    | _ => false)
  | .make cl as => (match e with
    | .Call (.Name x _) es [] _ => glB c x && (match T.cls[cl]? with | some C => decide (C.name = x) && C.exc.isNone | none => false) && argsB (k.e c) as es
    | _ => false)
  | .meth o m as => (match e with
    | .Call (.Attribute oe x apos) es [] pos => decide (T.nm[m]? = some x) && baseOk oe && (apos.endLine == pos.line) && k.e c o oe && argsB (k.e c) as es
    | _ => false)
  | .bf id as => (match e with
    | .Call (.Name x _) es [] _ => glB c x && decide (bfName id = some x) && argsB (k.e c) as es && Nat.blt 0 es.length
    | _ => false)
  | .bm id o as => (match e with
    | .Call (.Attribute oe x apos) es [] pos => decide (bmName id = some x) && baseOk oe && (apos.endLine == pos.line) && k.e c o oe && argsB (k.e c) as es && Nat.blt 0 es.length
    | _ => false)
  | .lenset a => (match e with
    | .Call (.Name x _) [.Call (.Name y _) [ea] [] _] [] _ => glB c x && glB c y && decide (x = ("len" : Str)) && decide (y = ("set" : Str)) && noStar1 ea && k.e c a ea
    | _ => false)
  | .lrg a => (match e with
    | .Call (.Name x _) [.Call (.Name y _) [ea] [] _] [] _ => glB c x && glB c y && decide (x = ("list" : Str)) && decide (y = ("range" : Str)) && noStar1 ea && k.e c a ea
    | _ => false)
  | .lrg2 a b => (match e with
    | .Call (.Name x _) [.Call (.Name y _) [ea, eb] [] _] [] _ => glB c x && glB c y && decide (x = ("list" : Str)) && decide (y = ("range" : Str)) && noStar1 ea && noStar1 eb && k.e c a ea && k.e c b eb
    | _ => false)
  | .sub a i => (match e with
    | .Subscript ea ei _ => notSlice ei && baseOk ea && k.e c a ea && k.e c i ei
    | _ => false)
  | .slc _ _ _ => false
  | .rev a => (match e with
    | .Subscript ea (.Slice none none (some (.UnaryOp .USub (.Constant (.int 1) _ _) _)) _) _ => k.e c a ea
    | _ => false)
  | .tup es => (match e with | .Tuple xs _ _ => argsB (k.e c) es xs | _ => false)
  | .lst es => (match e with | .List xs _ => argsB (k.e c) es xs | _ => false)
  | .lcomp own elt t it ifs => (match e with
    | .ListComp ee [⟨te, ie, fe, 0⟩] scope _ => blkB c own scope && subB t.nms own && tgOk it te && k.i c it ie && notSet ie && k.t (c.blk scope) t te && k.e (c.blk scope) elt ee && allB2 (k.e (c.blk scope)) ifs fe && Nat.ble fe.length 1
    | _ => false)
  | .lcomp2 own vs1 elt t it ifs t1 it1 ifs1 => (match e with
    | .ListComp ee [⟨te, ie, fe, 0⟩, ⟨te1, ie1, fe1, 0⟩] scope _ => blkB c own scope && subB vs1 own && subB t.nms own && subB t1.nms vs1 && tgOk it te && tgOk it1 te1 && k.i c it ie && notSet ie && k.t (c.blk scope) t te && allB2 (k.e (c.blk scope)) ifs fe && Nat.ble fe.length 1 &&
        k.i (c.blk scope) it1 ie1 && notSet ie1 && k.t (c.blk scope) t1 te1 && k.e (c.blk scope) elt ee && allB2 (k.e (c.blk scope)) ifs1 fe1 && Nat.ble fe1.length 1
    | _ => false)
  | .dcomp own kk v t it ifs => (match e with
    | .DictComp ke ve [⟨te, ie, fe, 0⟩] scope _ => blkB c own scope && subB t.nms own && tgOk it te && k.i c it ie && notSet ie && k.t (c.blk scope) t te && k.e (c.blk scope) kk ke && k.e (c.blk scope) v ve && allB2 (k.e (c.blk scope)) ifs fe && Nat.ble fe.length 1
    | _ => false)
  | .ife t a b => (match e with | .IfExp te ea eb _ => k.e c t te && k.e c a ea && k.e c b eb | _ => false)
def ckI (k : Ck) (c : CC) (m : MI) (e : Expr) : Bool := match m with
  | .ex a => k.e c a e
  | .rg1 a => (match e with | .Call (.Name x _) [ea] [] _ => glB c x && decide (x = ("range" : Str)) && noStar1 ea && k.e c a ea | _ => false)
  | .rg2 a b => (match e with | .Call (.Name x _) [ea, eb] [] _ => glB c x && decide (x = ("range" : Str)) && noStar1 ea && noStar1 eb && k.e c a ea && k.e c b eb | _ => false)
  | .enu a => (match e with | .Call (.Name x _) [ea] [] _ => glB c x && decide (x = ("enumerate" : Str)) && noStar1 ea && k.e c a ea | _ => false)
def ckT (k : Ck) (c : CC) (m : MT) (e : Expr) : Bool := match m with
  | .nm i => (match e with | .Name x _ => slotB c i x && locB c x | _ => false)
  | .tp ts => (match e with | .Tuple es _ _ => es.all noStar1 && allB2 (k.t c) ts es | _ => false)
  | .at o f => (match e with | .Attribute oe x _ => decide (T.nm[f]? = some x) && baseOk oe && k.e c o oe | _ => false)
  | .ix o i => (match e with | .Subscript oe ie _ => notSlice ie && k.e c o oe && k.e c i ie | _ => false)
def ck : Nat → Ck
  | 0 => ⟨fun _ _ _ => false, fun _ _ _ => false, fun _ _ _ => false⟩
  | n + 1 => ⟨ckE T (ck n), ckI (ck n), ckT T (ck n)⟩
def fuel : Nat := 60
/-- a comprehension that is stored on its own line lets its block go late: the name is a plain local, no name of the block -/
def lcAsg (c : CC) (te : Expr) (e : Expr) (stLine : Nat) : Bool := match e with
  | .SetComp _ _ _ _ => false
  | .DictComp _ _ _ scope pos => (match te with
    | .Name y py => !decide (c.sc.names.lookup y = some .local) || !(py.line == pos.line)
    | _ => true)
  | _ => true
def tupAsg : MT → Expr → Bool
  | .tp _, .Tuple _ _ _ => false
  | _, _ => true
def exLine : Expr → Bool
  | .ListComp _ _ _ _ => false
  | .SetComp _ _ _ _ => false
  | .DictComp _ _ _ _ _ => false
  | _ => true
structure CkS where
  s : CC → MS → Stmt → Bool
def ckS (k : CkS) (c : CC) (m : MS) (s : Stmt) : Bool := match m with
  | .asg t e => (match s with
    | .Assign [te] ee pos => (ck T fuel).t c t te && (ck T fuel).e c e ee && lcAsg c te ee pos.line && noStar1 te && (match ee with | .Tuple _ _ _ => (match te with | .Tuple _ _ _ => false | .List _ _ => false | _ => true) | _ => true)
    | _ => false)
  | .ex e => (match s with | .Expr ee pos => (ck T fuel).e c e ee && exLine ee | _ => false)
  | .ret e => (match s with | .Return (some ee) _ => (ck T fuel).e c e ee | _ => false)
  | .retN => (match s with | .Return none _ => true | _ => false)
  | .ifs t a b => (match s with | .If te sa sb _ => (ck T fuel).e c t te && allB2 (k.s c) a sa && allB2 (k.s c) b sb | _ => false)
  | .for t it b => (match s with | .For te ie sb [] _ => tgOk it te && (ck T fuel).t c t te && (ck T fuel).i c it ie && notSet ie && allB2 (k.s c) b sb | _ => false)
  | .while t b => (match s with | .While te sb [] _ => (ck T fuel).e c t te && allB2 (k.s c) b sb | _ => false)
  | .raise cl as => (match s with
    | .Raise (some (.Call (.Name x _) es [] _)) none _ => glB c x && (match T.cls[cl]? with | some C => decide (C.name = x) && C.exc.isSome | none => false) && argsB ((ck T fuel).e c) as es
    | _ => false)
  | .tryE b cl su => (match s with
    | .Try sb [.ExceptHandler (some (.Name x _)) none ss _] [] [] _ => glB c x && (match T.cls[cl]? with | some C => decide (C.name = x) && C.exc.isSome | none => false) && allB2 (k.s c) b sb &&
        (match su, ss with
          | [.retN], [.Return none _] => true
          | [.ret (.cst v)], [.Return (some (.Constant q _ _)) _] => constB v q
          | _, _ => false)
    | _ => false)
  | .pass => (match s with | .Pass _ => true | .Expr (.Constant (.str _) _ _) _ => true | _ => false)
  | .brk => (match s with | .Break _ => true | _ => false)
  | .cont => (match s with | .Continue _ => true | _ => false)
  | .nev => true
def ckSt : Nat → CkS
  | 0 => ⟨fun _ _ _ => false⟩
  | n + 1 => ⟨ckS T (ckSt n)⟩
end
end Mp
namespace Mp
open PySem PySem.Spec L2
/-! ### the widest readings -/
section
variable (X : Cx)
def wE (e : Expr) : TE := fun σ H Q => ∀ pins s, Inv X pins σ H s → wpAny (model X.prog X.w) X.A (eval e X.env) (EP X pins σ Q) X.xe s
def wT (e : Expr) : TT := fun σ H Q => ∀ pins s, Inv X pins σ H s → wpAny (model X.prog X.w) X.A (isTrue e X.env (eval e X.env)) (TP X pins σ Q) X.xe s
def wW (e : Expr) : TT := fun σ H Q => ∀ (whole : Sem Value) pins s, Inv X pins σ H s → wpAny (model X.prog X.w) X.A (isTrue e X.env whole) (TP X pins σ Q) X.xe s
def wTs (es : List Expr) : TT := fun σ H Q => ∀ pins s, Inv X pins σ H s →
    wpAny (model X.prog X.w) X.A (forIn es true fun c r => if r = true then do let ok ← isTrue c X.env (eval c X.env); pure (ForInStep.yield ok) else pure (ForInStep.yield r)) (TP X pins σ Q) X.xe s
def wA (es : List Expr) : TA := fun σ H Q => ∀ (pos : Pos) pins s, Inv X pins σ H s → wpAny (model X.prog X.w) X.A (spliced (backTo pos (starEach es X.env))) (AP X pins σ Q) X.xe s
def wS (st : Stmt) : TS := fun D σ H => ∀ pins s, Inv X pins σ H s → wpAny (model X.prog X.w) X.A (exec st X.env) (SP X pins D) X.xe s
def wSs (st : List Stmt) : TS := fun D σ H => ∀ pins s, Inv X pins σ H s → wpAny (model X.prog X.w) X.A (execs st X.env) (SP X pins D) X.xe s
def wG (t : Expr) : TG := fun v σ H Q => ∀ pins s u, Inv X pins σ H s → RelV v u → wpAny (model X.prog X.w) X.A (assign t X.env u) (fun _ s' => ∃ σ' H', Inv X pins σ' H' s' ∧ Q σ' H') X.xe s
def wGs (ts : List Expr) : TGs := fun vs σ H Q => ∀ pins s us, Inv X pins σ H s → Vals vs us → wpAny (model X.prog X.w) X.A (assignInOrder ((assignEach ts X.env).map (·.2)) us) (fun _ s' => ∃ σ' H', Inv X pins σ' H' s' ∧ Q σ' H') X.xe s
def wI (tg iter : Expr) : TI := fun σ H R => ∀ pins s, Inv X pins σ H s → wpAny (model X.prog X.w) X.A (eval iter X.env) (fun v s1 => wpAny (model X.prog X.w) X.A (pyIter v) (PIE X pins σ tg R) X.xe s1) X.xe s
def wOp (f : Value → Value → Sem Value) : R2 := fun x y H Q => ∀ pins s σ v u, Inv X pins σ H s → RelV x v → RelV y u → wpAny (model X.prog X.w) X.A (f v u) (EP X pins σ Q) X.xe s
def wCall (f : Value) : List V → Hp → VK → Prop := fun xs H Q => ∀ pins s σ us, Inv X pins σ H s → Vals xs us → wpAny (model X.prog X.w) X.A (call f us) (EP X pins σ Q) X.xe s
end
section
variable {X : Cx} {e : Expr} {es : List Expr} {st : Stmt} {sts : List Stmt} {σ : L2.St} {H : Hp}
theorem wE.pe : PE X e (wE X e) := ⟨fun pins s σ H Q I h => h pins s I⟩
theorem wE.of {t : TE} {Q : VK} (p : PE X e t) (h : t σ H Q) : wE X e σ H Q := fun pins s I => p.run pins s σ H Q I h
theorem wT.pt : PT X e (wT X e) := ⟨fun pins s σ H Q I h => h pins s I⟩
theorem wT.of {t : TT} {Q : Bool → Hp → Prop} (p : PT X e t) (h : t σ H Q) : wT X e σ H Q := fun pins s I => p.run pins s σ H Q I h
theorem wW.pw : PW X e (wW X e) := ⟨fun whole pins s σ H Q I h => h whole pins s I⟩
theorem wW.of {t : TT} {Q : Bool → Hp → Prop} (p : PW X e t) (h : t σ H Q) : wW X e σ H Q := fun whole pins s I => p.run whole pins s σ H Q I h
theorem wTs.pts : PTs X es (wTs X es) := ⟨fun pins s σ H Q I h => h pins s I⟩
theorem wTs.of {t : TT} {Q : Bool → Hp → Prop} (p : PTs X es t) (h : t σ H Q) : wTs X es σ H Q := fun pins s I => p.run pins s σ H Q I h
theorem wA.pa : PA X es (wA X es) := ⟨fun pos pins s σ H Q I h => h pos pins s I⟩
theorem wA.of {t : TA} {Q : List V → Hp → Prop} (p : PA X es t) (h : t σ H Q) : wA X es σ H Q := fun pos pins s I => p.run pos pins s σ H Q I h
theorem wS.ps : PS X st (wS X st) := ⟨fun pins s σ H D I h => h pins s I⟩
theorem wS.of {t : TS} {D : Ends} (p : PS X st t) (h : t D σ H) : wS X st D σ H := fun pins s I => p.run pins s σ H D I h
theorem wSs.pss : PSs X sts (wSs X sts) := ⟨fun pins s σ H D I h => h pins s I⟩
theorem wSs.of {t : TS} {D : Ends} (p : PSs X sts t) (h : t D σ H) : wSs X sts D σ H := fun pins s I => p.run pins s σ H D I h
theorem wG.pg : PG X e (wG X e) := ⟨fun pins s σ H v u Q I r h => h pins s u I r⟩
theorem wG.of {t : TG} {v : V} {Q : St → Hp → Prop} (p : PG X e t) (h : t v σ H Q) : wG X e v σ H Q := fun pins s u I r => p.run pins s σ H v u Q I r h
theorem wGs.pgs : PGs X es (wGs X es) := ⟨fun pins s σ H vs us Q I r h => h pins s us I r⟩
theorem wGs.of {t : TGs} {vs : List V} {Q : St → Hp → Prop} (p : PGs X es t) (h : t vs σ H Q) : wGs X es vs σ H Q := fun pins s us I r => p.run pins s σ H vs us Q I r h
theorem wI.pi {tg : Expr} : PI X tg e (wI X tg e) := ⟨fun pins s σ H R I h => h pins s I⟩
theorem wI.of {tg : Expr} {t : TI} {R : It → Hp → Prop} (p : PI X tg e t) (h : t σ H R) : wI X tg e σ H R := fun pins s I => p.run pins s σ H R I h
theorem wOp.op {f : Value → Value → Sem Value} : OpR X f (wOp X f) := fun pins s σ H x y v u Q I rx ry h => h pins s σ v u I rx ry
theorem wOp.of {f : Value → Value → Sem Value} {r : R2} {x y : V} {Q : VK} (p : OpR X f r) (h : r x y H Q) : wOp X f x y H Q := fun pins s σ v u I rx ry => p pins s σ H x y v u Q I rx ry h
theorem wCall.cr {f : Value} : CallR X f (wCall X f) := fun pins s σ H xs us Q I r h => h pins s σ us I r
theorem wCall.of {f : Value} {r : List V → Hp → VK → Prop} {xs : List V} {Q : VK} (p : CallR X f r) (h : r xs H Q) : wCall X f xs H Q := fun pins s σ us I rv => p pins s σ H xs us Q I rv h
/-- weaker ends -/
theorem EP.mono {pins : List (Addr × Obj)} {Q Q' : VK} (m : ∀ v H, Q v H → Q' v H) {u : Value} {s' : Shared} (h : EP X pins σ Q u s') : EP X pins σ Q' u s' := by
  obtain ⟨v, H', I, r, q⟩ := h
  exact ⟨v, H', I, r, m _ _ q⟩
theorem wE.mono {Q Q' : VK} (m : ∀ v H, Q v H → Q' v H) (h : wE X e σ H Q) : wE X e σ H Q' := fun pins s I => thn (h pins s I) fun _ _ => EP.mono m
theorem wT.mono {Q Q' : Bool → Hp → Prop} (m : ∀ v H, Q v H → Q' v H) (h : wT X e σ H Q) : wT X e σ H Q' := fun pins s I => thn (h pins s I) fun _ _ ⟨H', I', q⟩ => ⟨H', I', m _ _ q⟩
end
/-! ### what the top has written -/
def fAd (K : PySem.W.Frag) (F : Fn) : Addr := match F.cls with
  | none => He.ga K F.name
  | some C => He.ma K (He.ga K C) F.name
def clA (T : Tab) (K : PySem.W.Frag) (c : Nat) : Option Addr := (T.cls[c]?).map fun C => He.ga K C.name
def bltNames : List Str := ["len", "int", "list", "tuple", "all", "any", "abs", "min", "set", "range", "enumerate"]
/-- an exception's own dict: none where it has no field -/
def ExAt (K : PySem.W.Frag) (nm : List Str) (ρ : List Addr) (H : Hp) (fs : List (Nat × PV)) (d : Option Addr) : Prop :=
  (fs = [] ∧ d = none) ∨ ∃ a fu, d = some a ∧ a ∉ ρ ∧ FR K nm ρ H fs fu ∧ H a = some (.xd fu)
structure Facts (T : Tab) (K : PySem.W.Frag) (mg : Str → Option Value) : Prop where
  nmd : T.nm.Nodup
  free : ∀ x ∈ bltNames, mg x = none
  fn : ∀ (f : Nat) (F : Fn), T.fns[f]? = some F → ∃ fd, FunD K F.name F.qual (defArgs F.st) (defBody F.st) (defScope F.st) [] [] (fAd K F) fd ∧ Binds K fd (F.N.take F.k) [] ∧
    FnScope F.N (F.N.take F.k) (defScope F.st) ∧ F.k ≤ F.N.length ∧ allB2 ((ckSt T fuel).s ⟨F.N, defScope F.st, fun _ => true⟩) F.body (defBody F.st) = true
  gl : ∀ (f : Nat) (F : Fn), T.fns[f]? = some F → F.cls = none → mg F.name = some (.ref (fAd K F))
  cn : ∀ (c : Nat) (C : Cl), T.cls[c]? = some C → mg C.name = some (.ref (He.ga K C.name))
  cl : ∀ (c : Nat) (C : Cl), T.cls[c]? = some C → C.exc = none → Cls K (He.ga K C.name)
  mkr : ∀ (c f : Nat) (C : Cl), T.cls[c]? = some C → C.exc = none → C.ms.lookup 0 = some f → ∃ F, T.fns[f]? = some F ∧ Mk K (He.ga K C.name) (fAd K F)
  ms : ∀ (c m f : Nat) (C : Cl) (x : Str), T.cls[c]? = some C → C.exc = none → C.ms.lookup m = some f → T.nm[m]? = some x → ∃ F, T.fns[f]? = some F ∧ Meth K (He.ga K C.name) x (fAd K F)
  na : ∀ (c f : Nat) (C : Cl) (x : Str), T.cls[c]? = some C → C.exc = none → C.fl.contains f = true → T.nm[f]? = some x → NoAttr K (He.ga K C.name) x
  ex : ∀ (c : Nat) (C : Cl) (fl : List Nat), T.cls[c]? = some C → C.exc = some fl → ∀ (X : Cx) (x : Str) (p pos : Pos) (es : List Expr), X.K = K → X.mg = mg → X.calm = true → Room 2 X.A → x = C.name → glB ⟨X.N, X.env.scope, fun _ => true⟩ x = true → es.all noStar1 = true →
    PMk X (.Call (.Name x p) es [] pos) (fun σ H Q => wA X es σ H fun vs H1 => vs.length = fl.length ∧
      ((vs = [] ∧ Q (.ref (He.ga K C.name)) none H1) ∨ (vs ≠ [] ∧ ∀ d, H1 d = none → Q (.ref (He.ga K C.name)) (some d) (upd H1 d (.xd ((fl.map fun i => T.nm.getD i Str.empty).zip vs))))))
  exf : ∀ (c : Nat) (C : Cl) (fl : List Nat), T.cls[c]? = some C → C.exc = some fl → ∀ i ∈ fl, ∃ x, T.nm[i]? = some x
  exm : ∀ (c : Nat) (C : Cl), T.cls[c]? = some C → C.exc.isSome = true → PySem.W.exmOne K (.ref (He.ga K C.name)) (.ref (He.ga K C.name)) = some true
  own : ∀ (c m f : Nat) (C : Cl), T.cls[c]? = some C → C.exc = none → C.ms.lookup m = some f → ∃ F, T.fns[f]? = some F ∧ PySem.W.isFn K (.ref (fAd K F)) = true ∧ PySem.W.fnIn K (fAd K F) = true ∧
    (m = 4 → PySem.W.findIn K (.ref (He.ga K C.name)) "__len__" = some (some (.ref (fAd K F)))) ∧ (m = 5 → PySem.W.findIn K (.ref (He.ga K C.name)) "__getitem__" = some (some (.ref (fAd K F))))
structure EC (T : Tab) (c : CC) (d : Nat) (X : Cx) : Prop where
  calm : X.calm = true
  nd : X.N.Nodup
  hN : X.N = c.N
  sc : X.env.scope = c.sc
  room : Room d X.A
  fa : Facts T X.K X.mg
  fn : ∀ x, c.fnc x = true → X.fn x = true
structure SC (T : Tab) (c : CC) (d : Nat) (X : Cx) (W : WX) : Prop where
  ec : EC T c d X
  hs : X.stack = X.env :: X.outer
  hf : X.env.frame = some X.env.locals
  tk : Takes X W
  po : PassesOwn (model X.prog X.w) X.A X.env X.xe
  kd : X.env.scope.kind = .function
/-! ### the slots -/
def RS (K : PySem.W.Frag) (ρ : List Addr) (H : Hp) (σ : Ev) (τ : St) : Prop := σ.length = τ.length ∧ ∀ (i : Nat) (v : PV), σ[i]? = some (some v) → ∃ u, τ[i]? = some (some u) ∧ RV K ρ H v u
section
variable {K : PySem.W.Frag} {ρ ρ' : List Addr} {H H' : Hp} {σ : Ev} {τ : St}
theorem RS.ext (e : Ext ρ ρ' H H') (r : RS K ρ H σ τ) : RS K ρ' H' σ τ := ⟨r.1, fun i v h => let ⟨u, h1, h2⟩ := r.2 i v h; ⟨u, h1, h2.ext e⟩⟩
theorem RS.set (r : RS K ρ H σ τ) {v : PV} {u : V} (rv : RV K ρ H v u) (i : Nat) : RS K ρ H (σ.set i (some v)) (τ.set i (some u)) := by
  refine ⟨by simp [r.1], fun j w h => ?_⟩
  by_cases hj : i = j
  · subst hj
    have lt : i < σ.length := by
      have := (List.getElem?_eq_some_iff.mp h).1
      simpa using this
    rw [List.getElem?_set_self lt] at h
    cases h
    exact ⟨u, by rw [List.getElem?_set_self (by rw [← r.1]; exact lt)], rv⟩
  · rw [List.getElem?_set_ne hj] at h
    rw [List.getElem?_set_ne hj]
    exact r.2 j w h
theorem RS.none (r : RS K ρ H σ τ) (i : Nat) : RS K ρ H (σ.set i none) (τ.set i none) := by
  refine ⟨by simp [r.1], fun j w h => ?_⟩
  by_cases hj : i = j
  · subst hj
    by_cases lt : i < σ.length
    · rw [List.getElem?_set_self lt] at h
      cases h
    · rw [List.getElem?_eq_none (by simpa using lt)] at h
      cases h
  · rw [List.getElem?_set_ne hj] at h
    rw [List.getElem?_set_ne hj]
    exact r.2 j w h
theorem RS.wipe (r : RS K ρ H σ τ) : ∀ vs : List Nat, RS K ρ H (wipeM vs σ) (L2.wipe τ vs)
  | [] => r
  | v :: vs => RS.none (RS.wipe r vs) v
end
/-! ### posts -/
section
variable (T : Tab) (K : PySem.W.Frag) (ρ : List Addr) (H : Hp)
abbrev Sim (h : MH) : Prop := SimH K T.nm (clA T K) ρ H h
def PostE (v : PV) (h : MH) (Q : VK) : Prop := ∀ ρ' H' u, Ext ρ ρ' H H' → Sim T K ρ' H' h → RV K ρ' H' v u → Q u H'
def PostA (vs : List PV) (h : MH) (Q : List V → Hp → Prop) : Prop := ∀ ρ' H' us, Ext ρ ρ' H H' → Sim T K ρ' H' h → RVs K ρ' H' vs us → Q us H'
def PostT (b : Bool) (h : MH) (Q : Bool → Hp → Prop) : Prop := ∀ ρ' H', Ext ρ ρ' H H' → Sim T K ρ' H' h → Q b H'
def PostG (σ' : Ev) (h : MH) (Q : St → Hp → Prop) : Prop := ∀ ρ' H' τ', Ext ρ ρ' H H' → Sim T K ρ' H' h → RS K ρ' H' σ' τ' → Q τ' H'
def PostX (c : Nat) (fs : List (Nat × PV)) (h : MH) (E : XK) : Prop := ∀ ρ' H' d C, Ext ρ ρ' H H' → Sim T K ρ' H' h → T.cls[c]? = some C → ExAt K T.nm ρ' H' fs d → E (.ref (He.ga K C.name)) d H'
def PostS (f : Fl) (D : Ends) (W : WX) : Prop := match f with
  | .nx σ' h => PostG T K ρ H σ' h D.nx
  | .bk σ' h => PostG T K ρ H σ' h D.bk
  | .ct σ' h => PostG T K ρ H σ' h D.ct
  | .rt v h => PostE T K ρ H v h D.rt
  | .ex c fs σ' h => ∀ ρ' H' τ' d C, Ext ρ ρ' H H' → Sim T K ρ' H' h → RS K ρ' H' σ' τ' → T.cls[c]? = some C → ExAt K T.nm ρ' H' fs d → W (.ref (He.ga K C.name)) d τ' H'
def PostC (r : Res) (Q : VK) (E : XK) : Prop := match r with
  | .ok v h => PostE T K ρ H v h Q
  | .ex c fs h => PostX T K ρ H c fs h E
end
section
variable {T : Tab} {K : PySem.W.Frag} {ρ ρ1 : List Addr} {H H1 : Hp}
theorem PostE.ext (e : Ext ρ ρ1 H H1) {v : PV} {h : MH} {Q : VK} (p : PostE T K ρ H v h Q) : PostE T K ρ1 H1 v h Q := fun ρ' H' u e' => p ρ' H' u (e.trans e')
theorem PostA.ext (e : Ext ρ ρ1 H H1) {v : List PV} {h : MH} {Q : List V → Hp → Prop} (p : PostA T K ρ H v h Q) : PostA T K ρ1 H1 v h Q := fun ρ' H' u e' => p ρ' H' u (e.trans e')
theorem PostT.ext (e : Ext ρ ρ1 H H1) {b : Bool} {h : MH} {Q : Bool → Hp → Prop} (p : PostT T K ρ H b h Q) : PostT T K ρ1 H1 b h Q := fun ρ' H' e' => p ρ' H' (e.trans e')
theorem PostG.ext (e : Ext ρ ρ1 H H1) {σ' : Ev} {h : MH} {Q : St → Hp → Prop} (p : PostG T K ρ H σ' h Q) : PostG T K ρ1 H1 σ' h Q := fun ρ' H' u e' => p ρ' H' u (e.trans e')
theorem PostX.ext (e : Ext ρ ρ1 H H1) {c : Nat} {fs : List (Nat × PV)} {h : MH} {E : XK} (p : PostX T K ρ H c fs h E) : PostX T K ρ1 H1 c fs h E := fun ρ' H' d C e' => p ρ' H' d C (e.trans e')
theorem PostS.ext (e : Ext ρ ρ1 H H1) {f : Fl} {D : Ends} {W : WX} (p : PostS T K ρ H f D W) : PostS T K ρ1 H1 f D W := by
  cases f with
  | nx σ' h => exact PostG.ext e p
  | bk σ' h => exact PostG.ext e p
  | ct σ' h => exact PostG.ext e p
  | rt v h => exact PostE.ext e p
  | ex c fs σ' h => exact fun ρ' H' τ' d C e' => p ρ' H' τ' d C (e.trans e')
end
end Mp
namespace Mp
open PySem PySem.Spec L2
section
variable {T : Tab} {X : Cx} {c : CC} {d : Nat} {ρ : List Addr} {H : Hp} {h h' : MH}
theorem EC.hu (E : EC T c d X) : X.A.units + 200 < cLine := by have := E.room.un; omega
theorem inl_tup {us : List V} {x : PV} {xs : List PV} {K : PySem.W.Frag} (r : RVs K ρ H (x :: xs) us) : us ≠ [] := by
  obtain ⟨u, t, e, _⟩ := r.inv
  rw [e]
  exact List.cons_ne_nil _ _
theorem listAt (S : Sim T X.K ρ H h) {m : Nat} {u : V} {xs : List PV} (r : RV X.K ρ H (.ref m) u) (g : h.get m = some (.lst xs)) : ∃ a us, u = .ref a ∧ ρ[m]? = some a ∧ RVs X.K ρ H xs us ∧ H a = some (.lst us) := by
  obtain ⟨a, e, z⟩ := (show ∃ a, u = .ref a ∧ ρ[m]? = some a from r)
  obtain ⟨us, rs, q⟩ := S.at z g
  exact ⟨a, us, e, z, rs, q⟩
theorem dictAt (S : Sim T X.K ρ H h) {m : Nat} {u : V} {kvs : List (Key × PV)} (r : RV X.K ρ H (.ref m) u) (g : h.get m = some (.dict kvs)) : ∃ a ku, u = .ref a ∧ ρ[m]? = some a ∧ KR X.K ρ H kvs ku ∧ H a = some (.dK ku) := by
  obtain ⟨a, e, z⟩ := (show ∃ a, u = .ref a ∧ ρ[m]? = some a from r)
  obtain ⟨us, rs, q⟩ := S.at z g
  exact ⟨a, us, e, z, rs, q⟩
theorem insAt (S : Sim T X.K ρ H h) {m : Nat} {u : V} {c : Nat} {fs : List (Nat × PV)} (r : RV X.K ρ H (.ref m) u) (g : h.get m = some (.ins c fs)) : ∃ a C dx fu, u = .ref a ∧ ρ[m]? = some a ∧ T.cls[c]? = some C ∧ FR X.K T.nm ρ H fs fu ∧ H a = some (.ins (He.ga X.K C.name) dx fu) := by
  obtain ⟨a, e, z⟩ := (show ∃ a, u = .ref a ∧ ρ[m]? = some a from r)
  obtain ⟨A, dx, fu, hc, rs, q⟩ := S.at z g
  unfold clA at hc
  cases hC : T.cls[c]? with
  | none => rw [hC] at hc; cases hc
  | some C =>
    rw [hC] at hc
    have hA : He.ga X.K C.name = A := Option.some.inj hc
    exact ⟨a, C, dx, fu, e, z, rfl, rs, by rw [hA]; exact q⟩
/-- a new list -/
theorem post_newL (S : Sim T X.K ρ H h) {xs : List PV} {us : List V} {Q : VK} (rs : RVs X.K ρ H xs us) (P : PostE T X.K ρ H (.ref h.nx) (h.new (.lst xs)) Q) : ∀ p, H p = none → Q (.ref p) (upd H p (.lst us)) := fun p hp =>
  P (ρ ++ [p]) _ _ (Ext.laid S hp) (S.laid hp ⟨us, rs.ext (Ext.laid S hp), upd_same⟩) ⟨p, rfl, by rw [← S.len]; exact getLast_app⟩
theorem post_newD (S : Sim T X.K ρ H h) {Q : VK} (P : PostE T X.K ρ H (.ref h.nx) (h.new (.dict [])) Q) : ∀ p, H p = none → Q (.ref p) (upd H p (.dK [])) := fun p hp =>
  P (ρ ++ [p]) _ _ (Ext.laid S hp) (S.laid hp ⟨[], .nil, upd_same⟩) ⟨p, rfl, by rw [← S.len]; exact getLast_app⟩
theorem post_newT (S : Sim T X.K ρ H h) {xs : List PV} {us : List V} {Q : VK} (rs : RVs X.K ρ H xs us) (P : PostE T X.K ρ H (.tup xs) h Q) : ∀ p, H p = none → Q (.ref p) (upd H p (.tup us)) := fun p hp =>
  P ρ _ _ (Ext.fresh S hp) (S.fresh hp) (RV.newTup S hp rs)
theorem PostE.now (S : Sim T X.K ρ H h) {v : PV} {u : V} {Q : VK} (P : PostE T X.K ρ H v h Q) (r : RV X.K ρ H v u) : Q u H := P ρ H u (Ext.refl _ _) S r
/-! ### operators -/
theorem bin_ok (E : EC T c d X) (S : Sim T X.K ρ H h) {op : Nat} {o : Operator} {x y v : PV} {xu yu : V} {Q : VK} (ho : opOf op = some o) (hb : binV op x y h = some (v, h')) (rx : RV X.K ρ H x xu) (ry : RV X.K ρ H y yu)
    (P : PostE T X.K ρ H v h' Q) : wOp X (binaryOp o) xu yu H Q := by
  have hbl := big_line
  rcases op with _ | _ | _ | _ | _ | _ | op
  · cases ho
    cases x with
    | int i => cases y with
      | int j => cases hb; cases rx; cases ry; exact wOp.of op_add ⟨i, j, rfl, rfl, P.now S rfl⟩
      | _ => cases hb
    | str a => cases y with
      | str b =>
        have hb : (if a.length + b.length ≤ big then some (PV.str (a ++ b), h) else none) = some (v, h') := hb
        split at hb
        · rename_i hl
          cases hb; cases rx; cases ry
          exact wOp.of op_add_str ⟨a, b, rfl, rfl, by omega, P.now S rfl⟩
        · cases hb
      | _ => cases hb
    | tup xs => cases xs with
      | nil => cases y <;> cases hb
      | cons u us => cases y with
        | tup ws =>
          have hb : (if (u :: us).length + ws.length ≤ big then some (PV.tup (u :: us ++ ws), h) else none) = some (v, h') := hb
          split at hb
          · rename_i hl
            cases hb
            obtain ⟨a, ua, ea, ta, ra⟩ := (show ∃ a us', xu = .ref a ∧ TupAt X.K ρ H a us' ∧ RVs X.K ρ H (u :: us) us' from rx)
            obtain ⟨b, ub, eb, tb, rb⟩ := (show ∃ a us', yu = .ref a ∧ TupAt X.K ρ H a us' ∧ RVs X.K ρ H ws us' from ry)
            have l1 := ra.len
            have l2 := rb.len
            refine wOp.of op_catT ⟨a, b, ua, ub, ea, eb, ta.sq, tb.sq, inl_tup ra, by omega, fun e => ?_, fun _ => post_newT S (ra.app rb) P⟩
            subst e
            have e2 : ws = [] := by cases ws with
              | nil => rfl
              | cons _ _ => cases l2
            subst e2
            refine P.now S ?_
            rw [List.append_nil]
            exact ⟨a, ua, rfl, ta, ra⟩
          · cases hb
        | _ => cases hb
    | ref m => cases y with
      | ref k =>
        have hb : (match h.get m, h.get k with
          | some (.lst us), some (.lst ws) => if us.length + ws.length ≤ big then some (PV.ref h.nx, h.new (.lst (us ++ ws))) else none
          | _, _ => none) = some (v, h') := hb
        split at hb
        · rename_i us ws g1 g2
          split at hb
          · rename_i hl
            cases hb
            obtain ⟨a, ua, ea, za, ra, qa⟩ := listAt S rx g1
            obtain ⟨b, ub, eb, zb, rb, qb⟩ := listAt S ry g2
            have l1 := ra.len
            have l2 := rb.len
            exact wOp.of op_cat ⟨a, b, ua, ub, ea, eb, qa, qb, by omega, post_newL S (ra.app rb) P⟩
          · cases hb
        · cases hb
      | _ => cases hb
    | _ => cases y <;> cases hb
  · cases ho
    cases x with
    | int i => cases y with
      | int j => cases hb; cases rx; cases ry; exact wOp.of op_sub ⟨i, j, rfl, rfl, P.now S rfl⟩
      | _ => cases hb
    | _ => cases y <;> cases hb
  · cases ho
    cases x with
    | int i => cases y with
      | int j =>
        have hb : (if (-(2 ^ 64) < i ∧ i < 2 ^ 64) ∨ (-(2 ^ 64) < j ∧ j < 2 ^ 64) then some (PV.int (i * j), h) else none) = some (v, h') := hb
        split at hb
        · rename_i hl
          cases hb; cases rx; cases ry; exact wOp.of op_mul ⟨i, j, rfl, rfl, hl, P.now S rfl⟩
        · cases hb
      | _ => cases hb
    | _ => cases y <;> cases hb
  · cases ho
    cases x with
    | int i => cases y with
      | int j =>
        have hb : (if j ≠ 0 ∧ j.natAbs < 1073741824 then some (PV.int (i.fdiv j), h) else none) = some (v, h') := hb
        split at hb
        · rename_i hl
          cases hb; cases rx; cases ry; exact wOp.of op_fdivN ⟨i, j, rfl, rfl, hl, P.now S rfl⟩
        · cases hb
      | _ => cases hb
    | _ => cases y <;> cases hb
  · cases ho
    cases x with
    | int i => cases y with
      | int j =>
        have hb : (if j ≠ 0 then some (PV.int (i.fmod j), h) else none) = some (v, h') := hb
        split at hb
        · rename_i hl
          cases hb; cases rx; cases ry; exact wOp.of op_modN ⟨i, j, rfl, rfl, hl, P.now S rfl⟩
        · cases hb
      | _ => cases hb
    | _ => cases y <;> cases hb
  · cases ho
    cases x with
    | int i => cases y with
      | int j =>
        have hb : (if 0 ≤ j ∧ j ≤ 1000000 ∧ i.natAbs < 2 ^ 64 then some (PV.int (i ^ j.toNat), h) else none) = some (v, h') := hb
        split at hb
        · rename_i hl
          cases hb; cases rx; cases ry; exact wOp.of op_pow ⟨i, j, rfl, rfl, hl, P.now S rfl⟩
        · cases hb
      | _ => cases hb
    | _ => cases y <;> cases hb
  · cases hb
/-! ### data -/
theorem mapO_len {α β : Type} {f : α → Option β} : ∀ {l : List α} {r : List β}, mapO f l = some r → r.length = l.length
  | [], r, e => by cases e; rfl
  | a :: l, r, e => by
    unfold mapO at e
    split at e
    · split at e
      · cases e
        rw [List.length_cons, List.length_cons, mapO_len (by assumption)]
      · cases e
    · cases e
mutual
theorem pyd_ok (S : Sim T X.K ρ H h) : ∀ {n : Nat} {v : PV} {u : V} {d : PyData}, pydM h n v = some d → RV X.K ρ H v u → Dp X.K H u d
  | 0, _, _, _, e, _ => by cases e
  | n + 1, .non, u, d, e, r => by cases e; cases r; exact .non
  | n + 1, .bl b, u, d, e, r => by cases e; cases r; exact .bl b
  | n + 1, .int i, u, d, e, r => by cases e; cases r; exact .int i
  | n + 1, .str x, u, d, e, r => by cases e; cases r; exact .str x
  | n + 1, .tup xs, u, d, e, r => by
    have e : (mapO (pydM h n) xs).map PyData.tuple = some d := e
    obtain ⟨ds, e1, e2⟩ := Option.map_eq_some_iff.mp e
    subst e2
    obtain ⟨a, us, rfl, t, rs⟩ := (show ∃ a us, u = .ref a ∧ TupAt X.K ρ H a us ∧ RVs X.K ρ H xs us from r)
    exact .tup t.sq (pyds_ok S e1 rs)
  | n + 1, .fz xs, u, d, e, r => by
    have e : (mapO (pydM h n) xs).map PyData.list = some d := e
    obtain ⟨ds, e1, e2⟩ := Option.map_eq_some_iff.mp e
    subst e2
    obtain ⟨a, us, rfl, t, rs⟩ := (show ∃ a us, u = .ref a ∧ FzAt X.K ρ H a us ∧ RVs X.K ρ H xs us from r)
    exact .lst t.sq (pyds_ok S e1 rs)
  | n + 1, .ref m, u, d, e, r => by
    have e : (match h.get m with
      | some (.lst xs) => (mapO (pydM h n) xs).map PyData.list
      | _ => none) = some d := e
    split at e
    · rename_i xs g
      obtain ⟨ds, e1, e2⟩ := Option.map_eq_some_iff.mp e
      subst e2
      obtain ⟨a, us, rfl, z, rs, q⟩ := listAt S r g
      exact .lst (SqL.of q) (pyds_ok S e1 rs)
    · cases e
theorem pyds_ok (S : Sim T X.K ρ H h) : ∀ {n : Nat} {vs : List PV} {us : List V} {ds : List PyData}, mapO (pydM h n) vs = some ds → RVs X.K ρ H vs us → DpAll X.K H us ds
  | n, [], us, ds, e, r => by cases e; cases r.nil_inv; exact .nil
  | n, v :: vs, us, ds, e, r => by
    obtain ⟨u, ws, rfl, r1, r2⟩ := r.inv
    unfold mapO at e
    split at e
    · rename_i d1 e1
      split at e
      · rename_i ds1 e2
        cases e
        exact .cons (pyd_ok S e1 r1) (pyds_ok S e2 r2)
      · cases e
    · cases e
end
theorem data_ok (S : Sim T X.K ρ H h) {v : PV} {u : V} {d : PyData} (e : dataM h v = some d) (r : RV X.K ρ H v u) : Dp X.K H u d ∧ SeqAt.shaped d = true := by
  unfold dataM at e
  split at e
  · rename_i d1 e1
    split at e
    · rename_i hs
      cases e
      exact ⟨pyd_ok S e1 r, hs⟩
    · cases e
  · cases e
theorem isNon_ok {K : PySem.W.Frag} {x : PV} {xu : V} (rx : RV K ρ H x xu) : decide (xu = V.non) = isNonB x := by
  cases x with
  | non => cases rx; rfl
  | bl _ => cases rx; rfl
  | int _ => cases rx; rfl
  | str _ => cases rx; rfl
  | tup _ => obtain ⟨a, us, rfl, _⟩ := (show ∃ a us, xu = .ref a ∧ TupAt K ρ H a us ∧ RVs K ρ H _ us from rx); rfl
  | ref _ => obtain ⟨a, rfl, _⟩ := (show ∃ a, xu = .ref a ∧ ρ[_]? = some a from rx); rfl
  | fz _ => obtain ⟨a, us, rfl, _⟩ := (show ∃ a us, xu = .ref a ∧ FzAt K ρ H a us ∧ RVs K ρ H _ us from rx); rfl
theorem cmp_ok (E : EC T c d X) (S : Sim T X.K ρ H h) {op : Nat} {o : CmpOp} {x y : PV} {b : Bool} {xu yu : V} {Q : VK} (ho : cmpOf op = some o) (hb : cmpV op x y h = some b) (rx : RV X.K ρ H x xu) (ry : RV X.K ρ H y yu)
    (P : PostE T X.K ρ H (.bl b) h Q) : wOp X (compareOp o) xu yu H Q := by
  have hu := E.hu
  have q : Q (.bl b) H := P.now S rfl
  have int2 : ∀ {f : Int → Int → Bool}, intCmp f x y = some b → ∃ i j, xu = .int i ∧ yu = .int j ∧ f i j = b := by
    intro f hb
    cases x with
    | int i => cases y with
      | int j => cases hb; exact ⟨i, j, rx, ry, rfl⟩
      | _ => cases hb
    | _ => cases y <;> cases hb
  have inn : ∀ {b : Bool}, inV x y h = some b → ∃ d ds, Dp X.K H xu d ∧ Dp X.K H yu (.list ds) ∧ SeqAt.shaped d = true ∧ SeqAt.shaped (.list ds) = true ∧ (ds.any fun z => PyData.eqv z d) = b := by
    intro b hb
    unfold inV at hb
    split at hb
    · split at hb
      · split at hb
        · rename_i e1 e2
          cases hb
          obtain ⟨p1, s1⟩ := data_ok S e1 rx
          obtain ⟨p2, s2⟩ := data_ok S e2 ry
          exact ⟨_, _, p1, p2, s1, s2, rfl⟩
        · cases hb
      · cases hb
    · cases hb
  rcases op with _ | _ | _ | _ | _ | _ | _ | _ | _ | _ | op
  · cases ho
    have hb : (match dataM h x, dataM h y with
      | some d, some e => some (PyData.eqv d e)
      | _, _ => none) = some b := hb
    split at hb
    · rename_i e1 e2
      cases hb
      obtain ⟨p1, s1⟩ := data_ok S e1 rx
      obtain ⟨p2, s2⟩ := data_ok S e2 ry
      exact wOp.of (op_eqD (by omega)) ⟨_, _, p1, p2, s1, s2, q⟩
    · cases hb
  · cases ho
    have hb : (match dataM h x, dataM h y with
      | some d, some e => some (!PyData.eqv d e)
      | _, _ => none) = some b := hb
    split at hb
    · rename_i e1 e2
      cases hb
      obtain ⟨p1, s1⟩ := data_ok S e1 rx
      obtain ⟨p2, s2⟩ := data_ok S e2 ry
      exact wOp.of (op_neD (by omega)) ⟨_, _, p1, p2, s1, s2, q⟩
    · cases hb
  · cases ho
    obtain ⟨i, j, e1, e2, e3⟩ := int2 (f := fun i j => decide (i < j)) hb
    exact wOp.of op_lt ⟨i, j, e1, e2, by show Q (.bl (decide (i < j))) H; rw [show decide (i < j) = b from e3]; exact q⟩
  · cases ho
    obtain ⟨i, j, e1, e2, e3⟩ := int2 (f := fun i j => decide (i ≤ j)) hb
    exact wOp.of op_le ⟨i, j, e1, e2, by show Q (.bl (decide (i ≤ j))) H; rw [show decide (i ≤ j) = b from e3]; exact q⟩
  · cases ho
    obtain ⟨i, j, e1, e2, e3⟩ := int2 (f := fun i j => decide (j < i)) hb
    exact wOp.of op_gt ⟨i, j, e1, e2, by show Q (.bl (decide (j < i))) H; rw [show decide (j < i) = b from e3]; exact q⟩
  · cases ho
    obtain ⟨i, j, e1, e2, e3⟩ := int2 (f := fun i j => decide (j ≤ i)) hb
    exact wOp.of op_ge ⟨i, j, e1, e2, by show Q (.bl (decide (j ≤ i))) H; rw [show decide (j ≤ i) = b from e3]; exact q⟩
  · cases ho
    obtain ⟨d, ds, p1, p2, s1, s2, e⟩ := inn hb
    exact wOp.of (op_inD (by omega)) ⟨d, ds, p1, p2, s1, s2, by rw [e]; exact q⟩
  · cases ho
    have hb : (inV x y h).map (!·) = some b := hb
    obtain ⟨b2, e1, e2⟩ := Option.map_eq_some_iff.mp hb
    obtain ⟨d, ds, p1, p2, s1, s2, e⟩ := inn e1
    exact wOp.of (op_notInD (by omega)) ⟨d, ds, p1, p2, s1, s2, by rw [e]; subst e2; exact q⟩
  · cases ho
    cases y with
    | non =>
      have hb : some (isNonB x) = some b := hb
      exact wOp.of op_isN ⟨ry, by rw [isNon_ok rx, Option.some.inj hb]; exact q⟩
    | _ => cases hb
  · cases ho
    cases y with
    | non =>
      have hb : some (!isNonB x) = some b := hb
      exact wOp.of op_notN ⟨ry, by rw [isNon_ok rx, Option.some.inj hb]; exact q⟩
    | _ => cases hb
  · cases hb
end
end Mp
namespace Mp
open PySem PySem.Spec L2
/-! ### rules of our own -/
section
variable {X : Cx}
/-- min of a list of one -/
def rMin1 (K : PySem.W.Frag) : List V → Hp → VK → Prop := fun xs H Q => ∃ a x d, xs = [.ref a] ∧ SqL K H a [x] ∧ Dp K H x d ∧ SeqAt.shaped d = true ∧ PySem.W.alike d d = true ∧ d ≠ .none ∧ Q x H
theorem cr_min1 (hc : X.calm = true) (hu : X.A.units + 200 < cLine) : CallR X (.builtin "min") (rMin1 X.K) := by
  intro pins s σ H vs us Q I r h
  obtain ⟨a, x, d, rfl, hs, hd, sd, al, nn, q⟩ := h
  obtain ⟨its, rv, hl, _⟩ := I.list hs
  rw [Vals.ref1 r]
  have hdep : d.depth ≤ 64 := by
    have := sd
    unfold SeqAt.shaped at this
    rw [Bool.and_eq_true] at this
    exact of_decide_eq_true this.2
  cases rv with
  | cons rx rt =>
    rename_i ux ut
    cases rt
    obtain ⟨as, r1⟩ := Dp.readsAll I [d] [x] [ux] (.cons hd .nil) (.cons rx .nil)
    refine PySem.W.min_list_data (I.ok.hd hc) hl.isList r1 ⟨?_, ?_⟩ ?_ fun i v h' tk bs hi _ hk => ?_
    · intro y hy z hz
      rw [List.mem_singleton.mp hy, List.mem_singleton.mp hz]
      exact al
    · intro y hy
      rw [List.mem_singleton.mp hy]
      exact nn
    · have e : PyData.depthAll [d] ≤ 64 := by simp only [PyData.depthAll]; omega
      omega
    · have hi0 : i = 0 := by
        obtain ⟨q1, _⟩ := Array.getElem?_eq_some_iff.mp hi
        simp at q1
        exact q1
      subst hi0
      have hv : v = ux := by simpa using hi.symm
      subst hv
      exact ⟨x, H, I.kept hk, rx, q⟩
/-- len of a set of tuples -/
def rLenST (P : Program) (w : World) : List V → Hp → VK → Prop := fun xs H Q => ∃ (a : Addr) (L : List (Addr × List Int)), xs = [.ref a] ∧ H a = some (SetTO P w a L) ∧ ((L.map (·.2)).Nodup → Q (.int L.length) H)
theorem cr_lenST : CallR X (.builtin "len") (rLenST X.prog X.w) := by
  intro pins s σ H vs us Q I r h
  obtain ⟨a, L, rfl, hs, q⟩ := h
  rw [Vals.ref1 r]
  have hok : SetT0 X.prog X.w s.heap a L := (show SetT0 X.prog X.w s.heap a L ∧ _ from I.hok a _ hs).1
  obtain ⟨⟨es, ep, t, ⟨o, ho, hx, hd⟩, hes, htab, hnd, _, _, hm, hlt⟩⟩ := hok
  have hsz : es.size = L.length := by
    have := congrArg List.length hes
    simpa [rowsOf] using this
  refine call_len_set ho hx hd ?_ (by rw [hsz]; omega) ?_
  · unfold SetTable.fits SetTable.fill
    have e1 : t.place.size = L.length := by rw [htab.sz]; simp
    have e2 : t.dummies.size = 0 := by rw [htab.dm]; rfl
    rw [e1, e2, hsz, Bool.and_eq_true]
    exact ⟨by simp, decide_eq_true (by omega)⟩
  · rw [hsz]
    exact ⟨.int L.length, H, I.tok _, ⟨_, rfl⟩, q hnd⟩
end
/-! ### lists without two equal ones -/
theorem dedupM_mem : ∀ (l : List (List Int)) (x : List Int), x ∈ dedupM l ↔ x ∈ l
  | [], x => Iff.rfl
  | y :: r, x => by
    unfold dedupM
    split
    · rename_i hy
      rw [dedupM_mem r x, List.mem_cons]
      exact ⟨.inr, fun h => h.elim (fun e => e ▸ hy) id⟩
    · rw [List.mem_cons, List.mem_cons, dedupM_mem r x]
theorem dedupM_nodup : ∀ l : List (List Int), (dedupM l).Nodup
  | [] => .nil
  | y :: r => by
    unfold dedupM
    split
    · exact dedupM_nodup r
    · rename_i hy
      exact List.nodup_cons.mpr ⟨fun h => hy ((dedupM_mem r y).mp h), dedupM_nodup r⟩
theorem dedupM_len {l m : List (List Int)} (hn : m.Nodup) (h1 : ∀ x ∈ m, x ∈ l) (h2 : ∀ x ∈ l, x ∈ m) : m.length = (dedupM l).length := by
  have a := List.Nodup.length_le_of_subset hn (l₂ := dedupM l) fun x hx => (dedupM_mem l x).mpr (h1 x hx)
  have b := List.Nodup.length_le_of_subset (dedupM_nodup l) (l₂ := m) fun x hx => h2 x ((dedupM_mem l x).mp hx)
  omega
section
variable {T : Tab} {X : Cx} {c : CC} {d : Nat} {ρ : List Addr} {H : Hp} {h h' : MH}
theorem intsM_ok {K : PySem.W.Frag} : ∀ {xs : List PV} {us : List V} {is : List Int}, intsM xs = some is → RVs K ρ H xs us → us = is.map V.int
  | [], us, is, e, r => by cases e; exact r.nil_inv
  | x :: xs, us, is, e, r => by
    obtain ⟨u, ws, rfl, r1, r2⟩ := r.inv
    cases x with
    | int i =>
      obtain ⟨js, e1, e2⟩ := Option.map_eq_some_iff.mp (show (intsM xs).map (i :: ·) = some is from e)
      subst e2
      rw [List.map_cons, ← intsM_ok e1 r2]
      cases r1
      rfl
    | _ => cases e
theorem blsM_ok {K : PySem.W.Frag} : ∀ {xs : List PV} {us : List V} {is : List Bool}, blsM xs = some is → RVs K ρ H xs us → us = is.map V.bl
  | [], us, is, e, r => by cases e; exact r.nil_inv
  | x :: xs, us, is, e, r => by
    obtain ⟨u, ws, rfl, r1, r2⟩ := r.inv
    cases x with
    | bl i =>
      obtain ⟨js, e1, e2⟩ := Option.map_eq_some_iff.mp (show (blsM xs).map (i :: ·) = some is from e)
      subst e2
      rw [List.map_cons, ← blsM_ok e1 r2]
      cases r1
      rfl
    | _ => cases e
theorem tupsM_ok {K : PySem.W.Frag} : ∀ {xs : List PV} {us : List V} {ts : List (List Int)}, tupsM xs = some ts → RVs K ρ H xs us →
    ∃ ks : List (Addr × List Int), us = ks.map (fun p => V.ref p.1) ∧ ks.map (·.2) = ts ∧ ∀ p ∈ ks, SqT K H p.1 (p.2.map V.int)
  | [], us, ts, e, r => by cases e; exact ⟨[], r.nil_inv, rfl, fun _ h => by cases h⟩
  | x :: xs, us, ts, e, r => by
    obtain ⟨u, ws, rfl, r1, r2⟩ := r.inv
    cases x with
    | tup ys =>
      obtain ⟨is, e1, e2⟩ := Option.bind_eq_some_iff.mp (show ((intsM ys).bind fun is => (tupsM xs).map (is :: ·)) = some ts from e)
      obtain ⟨js, e3, e4⟩ := Option.map_eq_some_iff.mp e2
      obtain ⟨a, us', rfl, t, rs⟩ := (show ∃ a us, u = .ref a ∧ TupAt K ρ H a us ∧ RVs K ρ H ys us from r1)
      obtain ⟨ks, k1, k2, k3⟩ := tupsM_ok e3 r2
      have e5 := intsM_ok e1 rs
      subst e4 k1 e5
      refine ⟨(a, is) :: ks, rfl, by rw [List.map_cons, k2], fun p hp => ?_⟩
      rcases List.mem_cons.mp hp with hp | hp
      · rw [hp]; exact t.sq
      · exact k3 p hp
    | _ => cases e
theorem truth_ok {v : PV} {u : V} {b : Bool} (S : Sim T X.K ρ H h) (e : truthV v h = some b) (r : RV X.K ρ H v u) : TruV X.K u H b := by
  cases v with
  | non => cases e; cases r; rfl
  | bl _ => cases e; cases r; rfl
  | int _ => cases e; cases r; rfl
  | str _ => cases e
  | tup xs =>
    cases e
    obtain ⟨a, us, rfl, t, rs⟩ := (show ∃ a us, u = .ref a ∧ TupAt X.K ρ H a us ∧ RVs X.K ρ H xs us from r)
    refine .inr (.inl ⟨us, t.sq, ?_⟩)
    cases xs with
    | nil => cases rs.nil_inv; rfl
    | cons _ _ => obtain ⟨_, _, rfl, _⟩ := rs.inv; rfl
  | fz xs =>
    cases e
    obtain ⟨a, us, rfl, t, rs⟩ := (show ∃ a us, u = .ref a ∧ FzAt X.K ρ H a us ∧ RVs X.K ρ H xs us from r)
    refine .inl ⟨us, t.sq, ?_⟩
    cases xs with
    | nil => cases rs.nil_inv; rfl
    | cons _ _ => obtain ⟨_, _, rfl, _⟩ := rs.inv; rfl
  | ref m =>
    have e : (match h.get m with
      | some (.lst xs) => some (!xs.isEmpty)
      | some (.dict xs) => some (!xs.isEmpty)
      | _ => none) = some b := e
    split at e
    · rename_i xs g
      cases e
      obtain ⟨a, us, rfl, z, rs, q⟩ := listAt S r g
      refine .inl ⟨us, SqL.of q, ?_⟩
      cases xs with
      | nil => cases rs.nil_inv; rfl
      | cons _ _ => obtain ⟨_, _, rfl, _⟩ := rs.inv; rfl
    · rename_i xs g
      cases e
      obtain ⟨a, ku, rfl, z, rs, q⟩ := dictAt S r g
      refine .inr (.inr ⟨ku, q, ?_⟩)
      cases rs with
      | nil => rfl
      | cons _ _ => rfl
    · cases e
/-- subscripts by a number -/
theorem atI_ok {K : PySem.W.Frag} {xs : List PV} {us : List V} {i : Int} {v : PV} (r : RVs K ρ H xs us) (e : atI xs i = some v) : ∃ u, atI us i = some u ∧ RV K ρ H v u := by
  unfold atI at e ⊢
  rw [← r.len]
  obtain ⟨j, e1, e2⟩ := Option.bind_eq_some_iff.mp e
  obtain ⟨u, e3, e4⟩ := r.get e2
  exact ⟨u, by rw [e1]; exact e3, e4⟩
def rIx (K : PySem.W.Frag) : R2 := fun x y H Q => rIxL K x y H Q ∨ rIxT K x y H Q
theorem ix_any : IxR X (rIx X.K) := by
  intro value slice pins s σ H x y v u Q I rx ry h hs
  rcases h with h | h
  · exact ix_list value slice pins s σ H x y v u Q I rx ry h hs
  · exact ix_tup value slice pins s σ H x y v u Q I rx ry h hs
theorem atV_ok {K : PySem.W.Frag} {xs : List PV} {us : List V} {i v : PV} {iu : V} (r : RVs K ρ H xs us) (ri : RV K ρ H i iu) (e : atV xs i = some v) : ∃ k u, iu = .int k ∧ atI us k = some u ∧ RV K ρ H v u := by
  cases i with
  | int k => obtain ⟨u, e1, e2⟩ := atI_ok r e; exact ⟨k, u, ri, e1, e2⟩
  | _ => cases e
theorem sub_ok (S : Sim T X.K ρ H h) {x i v : PV} {xu iu : V} {Q : VK} (e : subV x i h = some v) (rx : RV X.K ρ H x xu) (ri : RV X.K ρ H i iu) (P : PostE T X.K ρ H v h Q) : rIx X.K xu iu H Q := by
  cases x with
  | tup xs =>
    obtain ⟨a, us, rfl, t, rs⟩ := (show ∃ a us, xu = .ref a ∧ TupAt X.K ρ H a us ∧ RVs X.K ρ H xs us from rx)
    obtain ⟨k, u, ei, e1, e2⟩ := atV_ok rs ri e
    exact .inr ⟨a, us, k, u, rfl, ei, t.sq, e1, P.now S e2⟩
  | fz xs =>
    obtain ⟨a, us, rfl, t, rs⟩ := (show ∃ a us, xu = .ref a ∧ FzAt X.K ρ H a us ∧ RVs X.K ρ H xs us from rx)
    obtain ⟨k, u, ei, e1, e2⟩ := atV_ok rs ri e
    exact .inl ⟨a, us, k, u, rfl, ei, t.sq, e1, P.now S e2⟩
  | ref m =>
    have e : (match h.get m with
      | some (.lst xs) => atV xs i
      | _ => none) = some v := e
    split at e
    · rename_i xs g
      obtain ⟨a, us, rfl, z, rs, q⟩ := listAt S rx g
      obtain ⟨k, u, ei, e1, e2⟩ := atV_ok rs ri e
      exact .inl ⟨a, us, k, u, rfl, ei, SqL.of q, e1, P.now S e2⟩
    · cases e
  | _ => cases e
theorem set_ok (S : Sim T X.K ρ H h) {x i v : PV} {xu iu vu : V} {Q : Hp → Prop} (e : setV x i v h = some h') (rx : RV X.K ρ H x xu) (ri : RV X.K ρ H i iu) (rv : RV X.K ρ H v vu)
    (P : ∀ H', Ext ρ ρ H H' → Sim T X.K ρ H' h' → Q H') : rSetL xu iu vu H Q := by
  cases x with
  | ref m =>
    have e : (match h.get m with
      | some (.lst xs) => (setAt xs v i).map fun ys => h.put m (.lst ys)
      | _ => none) = some h' := e
    split at e
    · rename_i xs g
      obtain ⟨ys, e1, e2⟩ := Option.map_eq_some_iff.mp e
      cases i with
      | int k =>
        obtain ⟨j, e3, e4⟩ := Option.map_eq_some_iff.mp (show (ixN xs.length k).map (fun j => xs.set j v) = some ys from e1)
        obtain ⟨a, us, rfl, z, rs, q⟩ := listAt S rx g
        subst e2 e4
        have w := Ext.wrote S (o := .lst (us.set j vu)) z
        exact ⟨a, us, k, j, rfl, ri, q, by rw [← rs.len]; exact e3, P _ w (S.wrote z ⟨us.set j vu, (rs.set rv j).ext w, upd_same⟩)⟩
      | _ => cases e1
    · cases e
  | _ => cases e
theorem lookK_ok {kvs : List (Key × PV)} {ku : List (Key × V)} {k : Key} (r : KR X.K ρ H kvs ku) : (lookK k kvs = none ∧ valV ku k = none) ∨ ∃ v u, lookK k kvs = some v ∧ valV ku k = some u ∧ RV X.K ρ H v u := by
  induction r with
  | nil => exact .inl ⟨rfl, rfl⟩
  | cons hd tl ih =>
    rename_i p q ps qs
    obtain ⟨e1, e2⟩ := hd
    unfold lookK valV at ih ⊢
    rw [List.find?_cons, List.find?_cons, ← e1]
    by_cases hk : p.1 = k
    · refine .inr ⟨p.2, q.2, ?_, ?_, e2⟩
      · simp [hk]
      · simp [hk]
    · simpa [hk] using ih
theorem keyOf_ok {K : PySem.W.Frag} {x : PV} {u : V} {k : Key} (e : keyOf x = some k) (r : RV K ρ H x u) : u = kV k := by
  cases x with
  | int i => cases e; cases r; rfl
  | str i => cases e; cases r; rfl
  | _ => cases e
theorem putK_any {kvs : List (Key × PV)} {ku : List (Key × V)} (k : Key) (r : KR X.K ρ H kvs ku) : (kvs.any fun kv => decide (kv.1 = k)) = (ku.any fun kv => decide (kv.1 = k)) := by
  induction r with
  | nil => rfl
  | cons hd tl ih => rw [List.any_cons, List.any_cons, ih, hd.1]
theorem putMap_ok {kvs : List (Key × PV)} {ku : List (Key × V)} {k : Key} {v : PV} {u : V} (r : KR X.K ρ H kvs ku) (rv : RV X.K ρ H v u) :
    KR X.K ρ H (kvs.map fun kv => if kv.1 = k then (kv.1, v) else kv) (ku.map fun kv => if kv.1 = k then (kv.1, u) else kv) := by
  induction r with
  | nil => exact .nil
  | cons hd tl ih =>
    rw [List.map_cons, List.map_cons]
    refine .cons ?_ ih
    rw [hd.1]
    split
    · exact ⟨rfl, rv⟩
    · exact hd
theorem putK_ok {kvs : List (Key × PV)} {ku : List (Key × V)} {k : Key} {v : PV} {u : V} (r : KR X.K ρ H kvs ku) (rv : RV X.K ρ H v u) : KR X.K ρ H (putK k v kvs) (L2.putK ku k u) := by
  unfold putK L2.putK
  rw [putK_any k r]
  split
  · exact putMap_ok r rv
  · exact PySem.Paired.snoc r ⟨rfl, rv⟩

/-! ### built-in functions -/
inductive BltF (X : Cx) (x : Str) (us : List V) (H : Hp) (Q : VK) : Prop where
  | fn (id : String) (hb : bootBuiltins x = some (.builtin id)) (w : wCall X (.builtin id) us H Q)
  | ty (ty : String) (hb : bootBuiltins x = some (.type ty)) (w : wCall X (.type ty) us H Q)
theorem seq_ok (S : Sim T X.K ρ H h) {v : PV} {u : V} {xs : List PV} (e : seqM h v = some xs) (r : RV X.K ρ H v u) : ∃ a us, u = .ref a ∧ RVs X.K ρ H xs us ∧ (SqL X.K H a us ∨ SqT X.K H a us) := by
  cases v with
  | tup ys =>
    cases e
    obtain ⟨a, us, rfl, t, rs⟩ := (show ∃ a us, u = .ref a ∧ TupAt X.K ρ H a us ∧ RVs X.K ρ H xs us from r)
    exact ⟨a, us, rfl, rs, .inr t.sq⟩
  | fz ys =>
    cases e
    obtain ⟨a, us, rfl, t, rs⟩ := (show ∃ a us, u = .ref a ∧ FzAt X.K ρ H a us ∧ RVs X.K ρ H xs us from r)
    exact ⟨a, us, rfl, rs, .inl t.sq⟩
  | ref m =>
    have e : (match h.get m with | some (.lst xs) => some xs | _ => none) = some xs := e
    split at e
    · rename_i ys g
      cases e
      obtain ⟨a, us, rfl, z, rs, q⟩ := listAt S r g
      exact ⟨a, us, rfl, rs, .inl (SqL.of q)⟩
    · cases e
  | _ => cases e
theorem any_id (bs : List Bool) : bs.any bfn.id' = bs.any id := rfl
theorem all_id (bs : List Bool) : bs.all bfn.id' = bs.all id := rfl
theorem bfn_ok (E : EC T c d X) (S : Sim T X.K ρ H h) {id : Nat} {x : Str} {vs : List PV} {us : List V} {v : PV} {Q : VK} (hn : bfName id = some x) (e : bfn id vs h = some (v, h')) (r : RVs X.K ρ H vs us)
    (P : PostE T X.K ρ H v h' Q) : BltF X x us H Q := by
  unfold bfn at e
  split at e
  · cases hn
    refine .fn "len" rfl ?_
    obtain ⟨u, t, rfl, r1, r2⟩ := r.inv
    cases r2.nil_inv
    split at e
    · split at e
      · rename_i g
        cases e
        obtain ⟨a, ws, rfl, z, rs, q⟩ := listAt S r1 g
        exact wCall.of call_len ⟨_, ws.length, rfl, .inl ⟨ws, SqL.of q, rfl⟩, by rw [← rs.len]; exact P.now S rfl⟩
      · rename_i g
        cases e
        obtain ⟨a, ku, rfl, z, rs, q⟩ := dictAt S r1 g
        exact wCall.of call_lenD ⟨a, ku, rfl, q, by rw [← rs.length]; exact P.now S rfl⟩
      · cases e
    · cases e
      obtain ⟨a, ws, rfl, t, rs⟩ := (show ∃ a us, u = .ref a ∧ TupAt X.K ρ H a us ∧ RVs X.K ρ H _ us from r1)
      exact wCall.of call_len ⟨_, ws.length, rfl, .inr ⟨ws, t.sq, rfl⟩, by rw [← rs.len]; exact P.now S rfl⟩
    · cases e
      obtain ⟨a, ws, rfl, t, rs⟩ := (show ∃ a us, u = .ref a ∧ FzAt X.K ρ H a us ∧ RVs X.K ρ H _ us from r1)
      exact wCall.of call_len ⟨_, ws.length, rfl, .inl ⟨ws, t.sq, rfl⟩, by rw [← rs.len]; exact P.now S rfl⟩
    · cases e
  · cases hn
    refine .ty "int" rfl ?_
    obtain ⟨u, t, rfl, r1, r2⟩ := r.inv
    cases r2.nil_inv
    split at e
    · cases e; cases r1; exact wCall.of call_int1 (.inl ⟨_, rfl, P.now S rfl⟩)
    · cases e; cases r1; exact wCall.of call_int1 (.inr ⟨_, rfl, P.now S rfl⟩)
    · cases e
  · cases hn
    refine .ty "list" rfl ?_
    obtain ⟨u, t, rfl, r1, r2⟩ := r.inv
    cases r2.nil_inv
    split at e
    · rename_i g
      cases e
      obtain ⟨a, ws, rfl, rs, q⟩ := seq_ok S g r1
      exact wCall.of call_list_of ⟨a, ws, rfl, q, post_newL S rs P⟩
    · cases e
  · cases hn
    refine .ty "tuple" rfl ?_
    obtain ⟨u, t, rfl, r1, r2⟩ := r.inv
    cases r2.nil_inv
    split at e
    · split at e
      · rename_i g
        cases e
        obtain ⟨a, ws, rfl, z, rs, q⟩ := listAt S r1 g
        exact wCall.of call_tuple_of ⟨a, ws, rfl, .inl ⟨SqL.of q, post_newT S rs P⟩⟩
      · cases e
    · cases e
  · cases hn
    refine .fn "all" rfl ?_
    obtain ⟨u, t, rfl, r1, r2⟩ := r.inv
    cases r2.nil_inv
    split at e
    · rename_i g
      split at e
      · rename_i m bs e1
        cases e
        have g : (match h.get m with | some (.lst xs) => some xs | _ => none) = some _ := g
        split at g
        · rename_i g2
          cases g
          obtain ⟨a, ws, rfl, z, rs, q⟩ := listAt S r1 g2
          exact wCall.of (cr_all E.calm) ⟨a, bs, rfl, by rw [← blsM_ok e1 rs]; exact SqL.of q, P.now S rfl⟩
        · cases g
      · cases e
    · cases e
  · cases hn
    refine .fn "any" rfl ?_
    obtain ⟨u, t, rfl, r1, r2⟩ := r.inv
    cases r2.nil_inv
    split at e
    · rename_i g
      split at e
      · rename_i m bs e1
        cases e
        have g : (match h.get m with | some (.lst xs) => some xs | _ => none) = some _ := g
        split at g
        · rename_i g2
          cases g
          obtain ⟨a, ws, rfl, z, rs, q⟩ := listAt S r1 g2
          exact wCall.of (cr_any E.calm) ⟨a, bs, rfl, by rw [← blsM_ok e1 rs]; exact SqL.of q, P.now S rfl⟩
        · cases g
      · cases e
    · cases e
  · cases hn
    refine .fn "abs" rfl ?_
    obtain ⟨u, t, rfl, r1, r2⟩ := r.inv
    cases r2.nil_inv
    cases e
    cases r1
    exact wCall.of call_abs ⟨_, rfl, P.now S rfl⟩
  · cases hn
    refine .fn "min" rfl ?_
    obtain ⟨u, t, rfl, r1, r2⟩ := r.inv
    cases r2.nil_inv
    split at e
    · rename_i g
      split at e
      · rename_i hm
        cases e
        obtain ⟨a, ws, rfl, z, rs, q⟩ := listAt S r1 g
        obtain ⟨w, t2, rfl, s1, s2⟩ := rs.inv
        cases s2.nil_inv
        unfold minOk at hm
        split at hm
        · rename_i dd e1
          obtain ⟨p1, p2⟩ := data_ok S e1 s1
          rw [Bool.and_eq_true] at hm
          exact wCall.of (cr_min1 E.calm E.hu) ⟨a, w, dd, rfl, SqL.of q, p1, p2, hm.1, fun z => by rw [z] at hm; exact absurd hm.2 (by decide), P.now S s1⟩
        · cases hm
      · cases e
    · cases e
  · cases e
/-! ### methods of built-in types -/
theorem popIx {n : Nat} {i : Int} {j : Nat} (hn : n ≤ sizeLine) (e : ixN n i = some j) : -2 ^ 63 ≤ i ∧ i < 2 ^ 63 ∧ seqIndex? i n = some j := by
  have hs := sizeLine_eq
  unfold ixN at e
  split at e
  · split at e
    · cases e
      refine ⟨by omega, by omega, ?_⟩
      unfold seqIndex?
      simp
      omega
    · cases e
  · split at e
    · cases e
      refine ⟨by omega, by omega, ?_⟩
      unfold seqIndex?
      simp
      omega
    · cases e
theorem RVs.erase {K : PySem.W.Frag} : ∀ {vs : List PV} {us : List V} (i : Nat), RVs K ρ H vs us → RVs K ρ H (vs.eraseIdx i) (us.eraseIdx i)
  | [], us, i, r => by cases r.nil_inv; exact rfl
  | x :: xs, us, 0, r => by
    obtain ⟨u, t, rfl, r1, r2⟩ := r.inv
    exact r2
  | x :: xs, us, i + 1, r => by
    obtain ⟨u, t, rfl, r1, r2⟩ := r.inv
    exact ⟨u, t.eraseIdx i, rfl, r1, RVs.erase i r2⟩
/-- a method by number -/
def bmSlot : Nat → Option (String × String)
  | 10 => some ("list", "list.append")
  | 12 => some ("list", "list.pop")
  | _ => none
theorem bm_static {id : Nat} {x : Str} (hn : bmName id = some x) : ∃ ty nm, bmSlot id = some (ty, nm) ∧ PlainAttrs ty ∧ Slot ty x nm ∧ typeOf (.builtin nm) = pure (.type "method_descriptor") := by
  unfold bmName at hn
  split at hn
  · cases hn; exact ⟨_, _, rfl, PySem.F.plainAttrs_list, PySem.F.slot_list_append, PySem.F.type_list_append⟩
  · cases hn; exact ⟨_, _, rfl, PySem.F.plainAttrs_list, PySem.F.slot_list_pop, PySem.F.type_list_pop⟩
  · cases hn
theorem bm_ty (S : Sim T X.K ρ H h) {id : Nat} {x : Str} {o : PV} {u : V} {ty nm : String} (hn : bmName id = some x) (hs : bmSlot id = some (ty, nm)) (e : tyB id o h = true) (r : RV X.K ρ H o u) : tyV X.K ty u H := by
  have et : ty = "list" := by
    unfold bmSlot at hs
    split at hs <;> first | (cases hs; rfl) | cases hs
  subst et
  unfold tyB at e
  split at e
  · split at e
    · rename_i g
      obtain ⟨a, us, rfl, z, rs, q⟩ := listAt S r g
      exact .inl ⟨rfl, us, SqL.of q⟩
    · cases e
  · cases e
def wMt (X : Cx) (nm : String) (x : V) (xs : List V) (H : Hp) (Q : VK) : Prop := wCall X (.builtin nm) (x :: xs) H Q
theorem wMt.of {nm : String} {r : V → List V → Hp → VK → Prop} {x : V} {xs : List V} {Q : VK} (m : MtR X nm r) (q : r x xs H Q) : wMt X nm x xs H Q := fun pins s σ us I rv => by
  cases rv with
  | cons r1 r2 => exact m pins s σ H x xs _ _ Q I r1 r2 q
theorem bmn_ok (S : Sim T X.K ρ H h) {id : Nat} {o : PV} {ou : V} {ty nm : String} {vs : List PV} {us : List V} {v : PV} {Q : VK} (hs : bmSlot id = some (ty, nm)) (e : bmn id o vs h = some (v, h')) (ro : RV X.K ρ H o ou) (r : RVs X.K ρ H vs us)
    (P : PostE T X.K ρ H v h' Q) : wMt X nm ou us H Q := by
  have hbl := big_line
  unfold bmn at e
  split at e
  · split at e
    · rename_i g
      obtain ⟨a, ws, rfl, z, rs, q⟩ := listAt S ro g
      split at e
      · cases hs
        split at e
        · rename_i hl
          cases e
          obtain ⟨u, t2, rfl, r1, r2⟩ := r.inv
          cases r2.nil_inv
          have w := Ext.wrote S (o := .lst (ws ++ [u])) z
          have l := rs.len
          exact wMt.of mt_append ⟨a, ws, u, rfl, rfl, q, by omega, P ρ _ _ w (S.wrote z ⟨ws ++ [u], (rs.app (RVs.one r1)).ext w, upd_same⟩) rfl⟩
        · cases e
      · cases hs
        split at e
        · rename_i e1
          split at e
          · rename_i j _ w0 e2
            split at e
            · rename_i hl
              cases e
              obtain ⟨u, t2, rfl, r1, r2⟩ := r.inv
              cases r2.nil_inv
              cases r1
              obtain ⟨y, e3, e4⟩ := rs.get e2
              have w := Ext.wrote S (o := .lst (ws.eraseIdx j)) z
              have l := rs.len
              rw [l] at e1 hl
              obtain ⟨z1, z2, z3⟩ := popIx (by omega) e1
              exact wMt.of mt_popAt ⟨a, ws, _, j, y, rfl, rfl, q, z1, z2, z3, e3, P ρ _ _ w (S.wrote z ⟨_, (rs.erase j).ext w, upd_same⟩) (e4.ext w)⟩
            · cases e
          · cases e
        · cases e
      · cases e
    · cases e
  · cases e
/-! ### len(set(xs)) -/
theorem len_name {X : Cx} {x : Str} : True := True.intro
theorem lenset_ok (E : EC T c d X) (S : Sim T X.K ρ H h) {e : Expr} {v : PV} {u : V} {n : Int} {σ : St} {Q : VK} (hn : lensetV v h = some n) (r : RV X.K ρ H v u) (P : PostE T X.K ρ H (.int n) h Q) :
    (∃ (a : Addr) (ns : List Int), u = .ref a ∧ SqL X.K H a (ns.map V.int) ∧ ns.length < 64 ∧ ns.Nodup ∧ Q (.int ns.length) H) ∨
    (∃ a, u = .ref a ∧ rSetOfT X.K X.prog X.w [u] H fun z H2 => wCall X (.builtin "len") [z] H2 Q) := by
  cases v with
  | ref m =>
    have hn : (match h.get m with
      | some (.lst xs) => match intsM xs with
        | some is => if is.length < 64 ∧ is.Nodup then some (is.length : Int) else none
        | none => match tupsM xs with
          | some ts => if ts.length < 64 then some ((dedupM ts).length : Int) else none
          | none => none
      | _ => none) = some n := hn
    split at hn
    · rename_i g
      obtain ⟨a, us, rfl, z, rs, q⟩ := listAt S r g
      split at hn
      · rename_i is e1
        split at hn
        · rename_i hl
          cases hn
          exact .inl ⟨a, is, rfl, by rw [← intsM_ok e1 rs]; exact SqL.of q, hl.1, hl.2, P.now S rfl⟩
        · cases hn
      · split at hn
        · rename_i ts e1
          split at hn
          · rename_i hl
            cases hn
            obtain ⟨ks, k1, k2, k3⟩ := tupsM_ok e1 rs
            refine .inr ⟨a, rfl, a, ks, rfl, by rw [← k1]; exact SqL.of q, k3, by rw [← k2, List.length_map] at hl; exact hl, fun p L hp h1 h2 => ?_⟩
            refine wCall.of cr_lenST ⟨p, L, rfl, upd_same, fun hnd => ?_⟩
            have hlen : L.length = (dedupM ts).length := by
              rw [← dedupM_len (m := L.map (·.2)) hnd (fun x hx => ?_) (fun x hx => ?_), List.length_map]
              · obtain ⟨y, hy, rfl⟩ := List.mem_map.mp hx
                rw [← k2]
                exact List.mem_map.mpr ⟨y, h1 y hy, rfl⟩
              · rw [← k2] at hx
                obtain ⟨y, hy, rfl⟩ := List.mem_map.mp hx
                exact h2 y hy
            rw [hlen]
            exact P ρ _ _ (Ext.fresh S hp) (S.fresh hp) rfl
          · cases hn
        · cases hn
    · cases hn
  | _ => cases hn
end
end Mp
namespace Mp
open PySem PySem.Spec L2
/-! ### shapes of the text -/
theorem base_ok {o : Expr} (h : baseOk o = true) (x : Str) (env : Env) (w : Sem Value) : attributeBase o x env w = w := by
  cases o with
  | Call f as ks p =>
    cases f with
    | Name y q =>
      cases as with
      | nil =>
        cases ks with
        | nil => cases h
        | cons _ _ => rfl
      | cons _ _ => rfl
    | _ => rfl
  | _ => rfl
theorem star1 {e : Expr} {es : List Expr} (h : noStar1 e = true) (env : Env) : starEach (e :: es) env = (false, eval e env) :: starEach es env := by
  cases e <;> first | rfl | cases h
theorem star_all : ∀ {es : List Expr} (h : es.all noStar1 = true) (pos : Pos) (env : Env), (backTo pos (starEach es env)).any (·.1) = false ∧ (backTo pos (starEach es env)).all (fun x => !x.1) = true
  | [], _, _, _ => ⟨rfl, rfl⟩
  | e :: es, h, pos, env => by
    rw [List.all_cons, Bool.and_eq_true] at h
    obtain ⟨h1, h2⟩ := star_all h.2 pos env
    rw [star1 h.1]
    exact ⟨by show (false || _) = false; rw [Bool.false_or]; exact h1, by show (!false && _) = true; rw [Bool.not_false, Bool.true_and]; exact h2⟩
theorem asg1 {e : Expr} {es : List Expr} (h : noStar1 e = true) (env : Env) : assignEach (e :: es) env = (false, assign e env) :: assignEach es env := by
  cases e <;> first | rfl | cases h
theorem asg_all : ∀ {es : List Expr} (h : es.all noStar1 = true) (env : Env), (assignEach es env).length = es.length ∧ (assignEach es env).findIdx? (·.1) = none
  | [], _, _ => ⟨rfl, rfl⟩
  | e :: es, h, env => by
    rw [List.all_cons, Bool.and_eq_true] at h
    obtain ⟨h1, h2⟩ := asg_all h.2 env
    rw [asg1 h.1]
    refine ⟨by rw [List.length_cons, List.length_cons, h1], ?_⟩
    rw [List.findIdx?_cons]
    simp [h2]
theorem fold_ok {e : Expr} (h : notSet e = true) (env : Env) (x : Value) : foldedSetIterable e env x = pure x := by
  cases e <;> first | rfl | cases h
theorem slice_ok {i : Expr} (h : notSlice i = true) : NoSl i := by
  cases i <;> first | (intro _ _; rfl) | cases h
theorem slice_ok2 {i : Expr} (h : notSlice i = true) : PlainIx i := by
  cases i <;> first | (intro _ _; rfl) | cases h
theorem sub_asg {i : Expr} {o : Expr} {pos : Pos} {env : Env} (h : notSlice i = true) (v : Value) : assign (.Subscript o i pos) env v = (do
      let ov ← holding [v] (eval o env)
      let iv ← holding [v, ov] (eval i env)
      standAt pos
      holding [v, ov, iv] (setItem ov iv v)
      release [v, ov, iv] []) := by
  cases i <;> first | rfl | cases h
theorem exline_ok {e : Expr} (h : exLine e = true) (l : Nat) (env : Env) : swapsWith e none l env = pure false := by
  cases e <;> first | rfl | cases h
theorem allB2_len {α β : Type} {f : α → β → Bool} : ∀ {as : List α} {bs : List β}, allB2 f as bs = true → as.length = bs.length
  | [], [], _ => rfl
  | [], _ :: _, h => by cases h
  | _ :: _, [], h => by cases h
  | a :: r, b :: s, h => by
    unfold allB2 at h
    rw [Bool.and_eq_true] at h
    rw [List.length_cons, List.length_cons, allB2_len h.2]
theorem allB2_cons {α β : Type} {f : α → β → Bool} {a : α} {as : List α} {bs : List β} (h : allB2 f (a :: as) bs = true) : ∃ b r, bs = b :: r ∧ f a b = true ∧ allB2 f as r = true := by
  cases bs with
  | nil => cases h
  | cons b r =>
    unfold allB2 at h
    rw [Bool.and_eq_true] at h
    exact ⟨b, r, rfl, h.1, h.2⟩
theorem allB2_nil {α β : Type} {f : α → β → Bool} {bs : List β} (h : allB2 f [] bs = true) : bs = [] := by
  cases bs with
  | nil => rfl
  | cons _ _ => cases h
theorem allB2_one {α β : Type} {f : α → β → Bool} {a : α} {bs : List β} (h : allB2 f [a] bs = true) : ∃ b, bs = [b] ∧ f a b = true := by
  obtain ⟨b, r, rfl, h1, h2⟩ := allB2_cons h
  rw [allB2_nil h2]
  exact ⟨b, rfl, h1⟩
/-- a test whose value is asked -/
def plainE : Expr → Bool
  | .BoolOp _ _ _ => false
  | .Compare _ _ _ _ => false
  | .UnaryOp .Not _ _ => false
  | .IfExp _ _ _ _ => false
  | .NamedExpr _ _ _ => false
  | .Constant _ _ _ => false
  | _ => true
def shapeT : Expr → Bool
  | .Name _ _ => true | .Attribute _ _ _ => true | .Call _ _ _ _ => true | .Subscript _ _ _ => true
  | _ => false
theorem plain_is {e : Expr} (h : shapeT e = true) (env : Env) (whole : Sem Value) :
    isTrue e env whole = (do let v ← whole; standAt e.pos; holding [v] (truthy v)) := by
  cases e <;> first | rfl | cases h
section
variable {X : Cx} {x : Str} {C : Addr}
/-- o.m(..): the whole call -/
theorem meth_form {o : Expr} {m : Str} {apos pos : Pos} {es : List Expr} {env : Env} (hb : baseOk o = true) (hl : (apos.endLine == pos.line) = true) (hs : es.all noStar1 = true) (hn : Nat.blt es.length 20 = true) :
    eval (.Call (.Attribute o m apos) es [] pos) env = (do
      let ov ← eval o env
      standAt apos.atName
      let (f, first) ← holding [ov] (getMethod ov m (do return (← importBound o env).getD true))
      callWith pos f first (backTo pos (starEach es env)) (backToKw pos (keywordEach [] env))) := by
  rw [PySem.arm_eval_Call, base_ok hb]
  have hn' : es.length < 20 := by
    have : Nat.ble (es.length + 1) 20 = true := hn
    exact Nat.le_of_ble_eq_true this
  have hform : methodCallForm (es.length + ([] : List Keyword).length) (backTo pos (starEach es env)) (backToKw pos (keywordEach [] env)) = true := by
    unfold methodCallForm
    rw [(star_all hs pos env).2]
    have e0 : backToKw pos (keywordEach [] env) = [] := rfl
    rw [e0]
    simp
    omega
  unfold methodCall
  rw [hform]
  have hpos : methodCallPos true o env apos pos = pure pos := by unfold methodCallPos; simp [hl]
  rw [hpos]
  simp [calleeOf]
end
end Mp
namespace Mp
open PySem PySem.Spec L2
/-! ### what is walked -/
def ItAt (K : PySem.W.Frag) (ρ : List Addr) (H : Hp) : IT → It → Prop
  | .live m, J => ∃ a, ρ[m]? = some a ∧ J = Itl K a
  | .enu m, J => ∃ a, ρ[m]? = some a ∧ J = Ite K a
  | .tup xs, J => ∃ a us, TupAt K ρ H a us ∧ RVs K ρ H xs us ∧ J = Itt K a
  | .fz xs, J => ∃ a us, FzAt K ρ H a us ∧ RVs K ρ H xs us ∧ J = Itl K a
  | .rng lo n, J => J = Itr lo n
section
variable {T : Tab} {K : PySem.W.Frag} {ρ ρ' : List Addr} {H H' : Hp} {h : MH} {r : IT} {J : It}
theorem ItAt.ext (e : Ext ρ ρ' H H') (w : ItAt K ρ H r J) : ItAt K ρ' H' r J := by
  cases r with
  | live m => obtain ⟨a, z, q⟩ := w; exact ⟨a, e.pre _ _ z, q⟩
  | enu m => obtain ⟨a, z, q⟩ := w; exact ⟨a, e.pre _ _ z, q⟩
  | tup xs => obtain ⟨a, us, t, rs, q⟩ := w; exact ⟨a, us, t.ext e, rs.ext e, q⟩
  | fz xs => obtain ⟨a, us, t, rs, q⟩ := w; exact ⟨a, us, t.ext e, rs.ext e, q⟩
  | rng lo n => exact w
theorem listAtK (S : Sim T K ρ H h) {m : Nat} {a : Addr} {xs : List PV} (z : ρ[m]? = some a) (g : h.get m = some (.lst xs)) : ∃ us, RVs K ρ H xs us ∧ H a = some (.lst us) := S.at z g
theorem it_stop (S : Sim T K ρ H h) (w : ItAt K ρ H r J) {n i : Nat} (hl : r.len h = some n) (hi : n ≤ i) : J.stop i H := by
  cases r with
  | live m =>
    obtain ⟨a, z, rfl⟩ := w
    have hl : (match h.get m with | some (.lst xs) => some xs.length | _ => none) = some n := hl
    split at hl
    · rename_i g
      cases hl
      obtain ⟨us, rs, q⟩ := listAtK S z g
      exact ⟨us, SqL.of q, by rw [← rs.len]; exact hi⟩
    · cases hl
  | enu m =>
    obtain ⟨a, z, rfl⟩ := w
    have hl : (match h.get m with | some (.lst xs) => some xs.length | _ => none) = some n := hl
    split at hl
    · rename_i g
      cases hl
      obtain ⟨us, rs, q⟩ := listAtK S z g
      exact ⟨us, SqL.of q, by rw [← rs.len]; exact hi⟩
    · cases hl
  | tup xs =>
    obtain ⟨a, us, t, rs, rfl⟩ := w
    cases hl
    exact ⟨us, t.sq, by rw [← rs.len]; exact hi⟩
  | fz xs =>
    obtain ⟨a, us, t, rs, rfl⟩ := w
    cases hl
    exact ⟨us, t.sq, by rw [← rs.len]; exact hi⟩
  | rng lo k =>
    cases w
    cases hl
    exact hi
theorem it_go (S : Sim T K ρ H h) (w : ItAt K ρ H r J) {i : Nat} {x : PV} (hx : r.at h i = some x) :
    J.go i H ∧ ∀ u H', J.yld i H u H' → Ext ρ ρ H H' ∧ Sim T K ρ H' h ∧ RV K ρ H' x u := by
  cases r with
  | live m =>
    obtain ⟨a, z, rfl⟩ := w
    have hx : (match h.get m with | some (.lst xs) => xs[i]? | _ => none) = some x := hx
    split at hx
    · rename_i g
      obtain ⟨us, rs, q⟩ := listAtK S z g
      obtain ⟨u, e, ru⟩ := rs.get hx
      refine ⟨⟨us, u, SqL.of q, e⟩, fun v H' y => ?_⟩
      obtain ⟨rfl, y⟩ := y
      have e2 := y us (SqL.of q)
      rw [e] at e2
      cases e2
      exact ⟨Ext.refl _ _, S, ru⟩
    · cases hx
  | enu m =>
    obtain ⟨a, z, rfl⟩ := w
    have hx : (match h.get m with | some (.lst xs) => (xs[i]?).map fun v => PV.tup [.int i, v] | _ => none) = some x := hx
    split at hx
    · rename_i g
      obtain ⟨us, rs, q⟩ := listAtK S z g
      obtain ⟨y, e1, e2⟩ := Option.map_eq_some_iff.mp hx
      subst e2
      obtain ⟨u, e, ru⟩ := rs.get e1
      refine ⟨⟨us, u, SqL.of q, e⟩, fun v H' yy => ?_⟩
      obtain ⟨t, x2, rfl, hn, rfl, y2⟩ := yy
      have e3 := y2 us (SqL.of q)
      rw [e] at e3
      cases e3
      exact ⟨Ext.fresh S hn, S.fresh hn, RV.newTup S hn (.cons rfl (.one ru))⟩
    · cases hx
  | tup xs =>
    obtain ⟨a, us, t, rs, rfl⟩ := w
    obtain ⟨u, e, ru⟩ := rs.get (show xs[i]? = some x from hx)
    refine ⟨⟨us, u, t.sq, e⟩, fun v H' y => ?_⟩
    obtain ⟨rfl, y⟩ := y
    have e2 := y us t.sq
    rw [e] at e2
    cases e2
    exact ⟨Ext.refl _ _, S, ru⟩
  | fz xs =>
    obtain ⟨a, us, t, rs, rfl⟩ := w
    obtain ⟨u, e, ru⟩ := rs.get (show xs[i]? = some x from hx)
    refine ⟨⟨us, u, t.sq, e⟩, fun v H' y => ?_⟩
    obtain ⟨rfl, y⟩ := y
    have e2 := y us t.sq
    rw [e] at e2
    cases e2
    exact ⟨Ext.refl _ _, S, ru⟩
  | rng lo k =>
    cases w
    have hx : (if i < k then some (PV.int (lo + i)) else none) = some x := hx
    split at hx
    · rename_i hi
      cases hx
      refine ⟨hi, fun v H' y => ?_⟩
      obtain ⟨rfl, rfl⟩ := y
      exact ⟨Ext.refl _ _, S, rfl⟩
    · cases hx
end
/-! ### loops -/
section
variable (X : Cx)
def FoW (te : Expr) (sts : List Stmt) (J : It) (D : Ends) : Nat → Nat → St → Hp → Prop
  | 0, i, σ, H => (J.stop i H ∧ D.nx σ H) ∨ (J.go i H ∧ ∀ x H', J.yld i H x H' → wG X te x σ H' fun σ2 H2 => wSs X sts { D with nx := fun _ _ => False, ct := fun _ _ => False, bk := D.nx } σ2 H2)
  | m + 1, i, σ, H => (J.stop i H ∧ D.nx σ H) ∨ (J.go i H ∧ ∀ x H', J.yld i H x H' → wG X te x σ H' fun σ2 H2 => wSs X sts { D with nx := FoW te sts J D m (i + 1), ct := FoW te sts J D m (i + 1), bk := D.nx } σ2 H2)
theorem FoW.for {te : Expr} {sts : List Stmt} {J : It} {D : Ends} {σ : St} {H : Hp} {m : Nat} (h : FoW X te sts J D m 0 σ H) :
    ∃ W : Nat → Nat → St → Hp → Prop, (∃ m, W 0 m σ H) ∧ ∀ i m σ H, W i m σ H →
  (J.stop i H ∧ D.nx σ H) ∨ (J.go i H ∧ ∃ N : St → Hp → Prop, (∀ σ' H', N σ' H' → ∃ m', m' < m ∧ W (i + 1) m' σ' H') ∧ ∀ x H', J.yld i H x H' → wG X te x σ H' fun σ2 H2 => wSs X sts { D with nx := N, ct := N, bk := D.nx } σ2 H2) := by
  refine ⟨fun i m σ H => FoW X te sts J D m i σ H, ⟨m, h⟩, fun i m σ H w => ?_⟩
  cases m with
  | zero =>
    rcases w with w | ⟨w1, w2⟩
    · exact .inl w
    · exact .inr ⟨w1, fun _ _ => False, fun _ _ z => z.elim, w2⟩
  | succ m =>
    rcases w with w | ⟨w1, w2⟩
    · exact .inl w
    · exact .inr ⟨w1, FoW X te sts J D m (i + 1), fun σ' H' z => ⟨m, Nat.lt_succ_self m, z⟩, w2⟩
def WhW (ce : Expr) (sts : List Stmt) (D : Ends) : Nat → St → Hp → Prop
  | 0, σ, H => wT X ce σ H fun b H1 => if b = true then wSs X sts { D with nx := fun _ _ => False, ct := fun _ _ => False, bk := D.nx } σ H1 else D.nx σ H1
  | m + 1, σ, H => wT X ce σ H fun b H1 => if b = true then wSs X sts { D with nx := WhW ce sts D m, ct := WhW ce sts D m, bk := D.nx } σ H1 else D.nx σ H1
theorem WhW.while {ce : Expr} {sts : List Stmt} {D : Ends} {σ : St} {H : Hp} {m : Nat} (h : WhW X ce sts D m σ H) : tWhile (wT X ce) (wSs X sts) D σ H := by
  refine ⟨fun m σ H => WhW X ce sts D m σ H, ⟨m, h⟩, fun m σ H w => ?_⟩
  cases m with
  | zero =>
    refine wT.mono (fun b H1 q => ?_) w
    cases b with
    | true => exact ⟨fun _ _ => False, fun _ _ z => z.elim, q⟩
    | false => exact q
  | succ m =>
    refine wT.mono (fun b H1 q => ?_) w
    cases b with
    | true => exact ⟨WhW X ce sts D m, fun σ' H' z => ⟨m, Nat.lt_succ_self m, z⟩, q⟩
    | false => exact q
/-- readings in every block of a comprehension -/
def bE (scope : Scope) (e : Expr) : TE := fun σ H Q => ∀ (s : Shared) (H0 : Hp) (C : Addr) (cl : List (Str × Addr)) (fp : List Addr), wE (X.blk s H0 scope (compEnvC scope cl C X.env) fp) e σ H Q
def bTs (scope : Scope) (e : List Expr) : TT := fun σ H Q => ∀ (s : Shared) (H0 : Hp) (C : Addr) (cl : List (Str × Addr)) (fp : List Addr), wTs (X.blk s H0 scope (compEnvC scope cl C X.env) fp) e σ H Q
def bG (scope : Scope) (t : Expr) : TG := fun v σ H Q => ∀ (s : Shared) (H0 : Hp) (C : Addr) (cl : List (Str × Addr)) (fp : List Addr), wG (X.blk s H0 scope (compEnvC scope cl C X.env) fp) t v σ H Q
def bI (scope : Scope) (tg e : Expr) : TI := fun σ H R => ∀ (s : Shared) (H0 : Hp) (C : Addr) (cl : List (Str × Addr)) (fp : List Addr), wI (X.blk s H0 scope (compEnvC scope cl C X.env) fp) tg e σ H R
theorem bE.pe {scope : Scope} {e : Expr} (s : Shared) (H0 : Hp) (C : Addr) (cl : List (Str × Addr)) (fp : List Addr) : PE (X.blk s H0 scope (compEnvC scope cl C X.env) fp) e (bE X scope e) := ⟨fun pins s1 σ H Q I h => h s H0 C cl fp pins s1 I⟩
theorem bTs.pts {scope : Scope} {e : List Expr} (s : Shared) (H0 : Hp) (C : Addr) (cl : List (Str × Addr)) (fp : List Addr) : PTs (X.blk s H0 scope (compEnvC scope cl C X.env) fp) e (bTs X scope e) := ⟨fun pins s1 σ H Q I h => h s H0 C cl fp pins s1 I⟩
theorem bG.pg {scope : Scope} {e : Expr} (s : Shared) (H0 : Hp) (C : Addr) (cl : List (Str × Addr)) (fp : List Addr) : PG (X.blk s H0 scope (compEnvC scope cl C X.env) fp) e (bG X scope e) := ⟨fun pins s1 σ H v u Q I r h => h s H0 C cl fp pins s1 u I r⟩
theorem bI.pi {scope : Scope} {tg e : Expr} (s : Shared) (H0 : Hp) (C : Addr) (cl : List (Str × Addr)) (fp : List Addr) : PI (X.blk s H0 scope (compEnvC scope cl C X.env) fp) tg e (bI X scope tg e) := ⟨fun pins s1 σ H R I h => h s H0 C cl fp pins s1 I⟩
/-- a comprehension's turns -/
def LcN (scope : Scope) (te : Expr) (ifs : List Expr) (ee : Expr) (vs : List Nat) (J : It) (D : Addr) (τ : St) (i : Nat) (H : Hp) (Nx : Hp → Prop) : Prop :=
  J.go i H ∧ ∀ x H', J.yld i H x H' → bG X scope te x (L2.wipe τ vs) H' fun σ2 H2 => L2.wipe σ2 vs = L2.wipe τ vs ∧ bTs X scope ifs σ2 H2 fun b H3 =>
    if b = true then bE X scope ee σ2 H3 fun y H4 => ∃ acc, H4 D = some (.lst acc) ∧ acc.length < sizeLine ∧ Nx (upd H4 D (.lst (acc ++ [y]))) else Nx H3
def LcW (scope : Scope) (te : Expr) (ifs : List Expr) (ee : Expr) (vs : List Nat) (J : It) (D : Addr) (τ : St) (Q : Hp → Prop) : Nat → Nat → Hp → Prop
  | 0, i, H => (J.stop i H ∧ Q H) ∨ LcN X scope te ifs ee vs J D τ i H fun _ => False
  | m + 1, i, H => (J.stop i H ∧ Q H) ∨ LcN X scope te ifs ee vs J D τ i H (LcW scope te ifs ee vs J D τ Q m (i + 1))
theorem LcW.run {scope : Scope} {te : Expr} {ifs : List Expr} {ee : Expr} {vs : List Nat} {J : It} {D : Addr} {τ : St} {Q : Hp → Prop} {m : Nat} {H : Hp} (h : LcW X scope te ifs ee vs J D τ Q m 0 H) :
    ∃ W : Nat → Nat → Hp → Prop, (∃ m, W 0 m H) ∧ ∀ i m H, W i m H →
  (J.stop i H ∧ Q H) ∨ (J.go i H ∧ ∃ Nx : Hp → Prop, (∀ H', Nx H' → ∃ m', m' < m ∧ W (i + 1) m' H') ∧ ∀ x H', J.yld i H x H' → bG X scope te x (L2.wipe τ vs) H' fun σ2 H2 => L2.wipe σ2 vs = L2.wipe τ vs ∧ bTs X scope ifs σ2 H2 fun b H3 =>
    if b = true then bE X scope ee σ2 H3 fun y H4 => ∃ acc, H4 D = some (.lst acc) ∧ acc.length < sizeLine ∧ Nx (upd H4 D (.lst (acc ++ [y]))) else Nx H3) := by
  refine ⟨fun i m H => LcW X scope te ifs ee vs J D τ Q m i H, ⟨m, h⟩, fun i m H w => ?_⟩
  cases m with
  | zero =>
    rcases w with w | ⟨w1, w2⟩
    · exact .inl w
    · exact .inr ⟨w1, fun _ => False, fun _ z => z.elim, w2⟩
  | succ m =>
    rcases w with w | ⟨w1, w2⟩
    · exact .inl w
    · exact .inr ⟨w1, LcW X scope te ifs ee vs J D τ Q m (i + 1), fun H' z => ⟨m, Nat.lt_succ_self m, z⟩, w2⟩
def DcN (scope : Scope) (te : Expr) (ifs : List Expr) (ke ve : Expr) (vs : List Nat) (J : It) (D : Addr) (τ : St) (i : Nat) (H : Hp) (Nx : Hp → Prop) : Prop :=
  J.go i H ∧ ∀ x H', J.yld i H x H' → bG X scope te x (L2.wipe τ vs) H' fun σ2 H2 => L2.wipe σ2 vs = L2.wipe τ vs ∧ bTs X scope ifs σ2 H2 fun b H3 =>
    if b = true then bE X scope ke σ2 H3 fun y H4 => bE X scope ve σ2 H4 fun z H5 => ∃ kvs k, y = kV k ∧ H5 D = some (.dK kvs) ∧ kvs.length < sizeLine ∧ Nx (upd H5 D (.dK (L2.putK kvs k z))) else Nx H3
def DcW (scope : Scope) (te : Expr) (ifs : List Expr) (ke ve : Expr) (vs : List Nat) (J : It) (D : Addr) (τ : St) (Q : Hp → Prop) : Nat → Nat → Hp → Prop
  | 0, i, H => (J.stop i H ∧ Q H) ∨ DcN X scope te ifs ke ve vs J D τ i H fun _ => False
  | m + 1, i, H => (J.stop i H ∧ Q H) ∨ DcN X scope te ifs ke ve vs J D τ i H (DcW scope te ifs ke ve vs J D τ Q m (i + 1))
theorem DcW.run {scope : Scope} {te : Expr} {ifs : List Expr} {ke ve : Expr} {vs : List Nat} {J : It} {D : Addr} {τ : St} {Q : Hp → Prop} {m : Nat} {H : Hp} (h : DcW X scope te ifs ke ve vs J D τ Q m 0 H) :
    ∃ W : Nat → Nat → Hp → Prop, (∃ m, W 0 m H) ∧ ∀ i m H, W i m H →
  (J.stop i H ∧ Q H) ∨ (J.go i H ∧ ∃ Nx : Hp → Prop, (∀ H', Nx H' → ∃ m', m' < m ∧ W (i + 1) m' H') ∧ ∀ x H', J.yld i H x H' → bG X scope te x (L2.wipe τ vs) H' fun σ2 H2 => L2.wipe σ2 vs = L2.wipe τ vs ∧ bTs X scope ifs σ2 H2 fun b H3 =>
    if b = true then bE X scope ke σ2 H3 fun y H4 => bE X scope ve σ2 H4 fun z H5 => ∃ kvs k, y = kV k ∧ H5 D = some (.dK kvs) ∧ kvs.length < sizeLine ∧ Nx (upd H5 D (.dK (L2.putK kvs k z))) else Nx H3) := by
  refine ⟨fun i m H => DcW X scope te ifs ke ve vs J D τ Q m i H, ⟨m, h⟩, fun i m H w => ?_⟩
  cases m with
  | zero =>
    rcases w with w | ⟨w1, w2⟩
    · exact .inl w
    · exact .inr ⟨w1, fun _ => False, fun _ z => z.elim, w2⟩
  | succ m =>
    rcases w with w | ⟨w1, w2⟩
    · exact .inl w
    · exact .inr ⟨w1, DcW X scope te ifs ke ve vs J D τ Q m (i + 1), fun H' z => ⟨m, Nat.lt_succ_self m, z⟩, w2⟩
/-- two clauses: the second one's own turns, then the next turn of the first -/
def LqN (scope : Scope) (te : Expr) (ifs : List Expr) (te1 ie1 : Expr) (ifs1 : List Expr) (ee : Expr) (vs vs1 : List Nat) (J : It) (D : Addr) (τ : St) (i : Nat) (H : Hp) (Nx : Hp → Prop) : Prop :=
  J.go i H ∧ ∀ x H', J.yld i H x H' → bG X scope te x (L2.wipe τ vs) H' fun σ2 H2 => L2.wipe σ2 vs = L2.wipe τ vs ∧ bTs X scope ifs σ2 H2 fun b H3 =>
    if b = true then bI X scope te1 ie1 σ2 H3 fun J1 H4 => ∃ m, LcW X scope te1 ifs1 ee vs1 J1 D σ2 Nx m 0 H4 else Nx H3
def LqW (scope : Scope) (te : Expr) (ifs : List Expr) (te1 ie1 : Expr) (ifs1 : List Expr) (ee : Expr) (vs vs1 : List Nat) (J : It) (D : Addr) (τ : St) (Q : Hp → Prop) : Nat → Nat → Hp → Prop
  | 0, i, H => (J.stop i H ∧ Q H) ∨ LqN X scope te ifs te1 ie1 ifs1 ee vs vs1 J D τ i H fun _ => False
  | m + 1, i, H => (J.stop i H ∧ Q H) ∨ LqN X scope te ifs te1 ie1 ifs1 ee vs vs1 J D τ i H (LqW scope te ifs te1 ie1 ifs1 ee vs vs1 J D τ Q m (i + 1))
end
/-! ### the promises -/
def spC (T : Tab) (K : PySem.W.Frag) (vs : List PV) (h : MH) (r : Res) (k : Nat) : Sp := fun us H Q E => us.length = k ∧ ∃ ρ, Sim T K ρ H h ∧ RVs K ρ H vs us ∧ PostC T K ρ H r Q E
section
variable (T : Tab) (K : PySem.W.Frag) (ρ : List Addr) (H : Hp)
def PostGT (nms : List Nat) (τ : St) (σ' : Ev) (h : MH) (Q : St → Hp → Prop) : Prop := ∀ ρ' H' τ', Ext ρ ρ' H H' → Sim T K ρ' H' h → RS K ρ' H' σ' τ' → (τ'.length = τ.length ∧ ∀ i, i ∉ nms → τ'[i]? = τ[i]?) → Q τ' H'
def PostI (r : IT) (h : MH) (R : It → Hp → Prop) : Prop := ∀ ρ' H' J, Ext ρ ρ' H H' → Sim T K ρ' H' h → ItAt K ρ' H' r J → R J H'
def PostH (h : MH) (Q : Hp → Prop) : Prop := ∀ ρ' H', Ext ρ ρ' H H' → Sim T K ρ' H' h → Q H'
end
section
variable {T : Tab} {K : PySem.W.Frag} {ρ ρ1 : List Addr} {H H1 : Hp}
theorem PostGT.ext (e : Ext ρ ρ1 H H1) {nms : List Nat} {τ : St} {σ' : Ev} {h : MH} {Q : St → Hp → Prop} (p : PostGT T K ρ H nms τ σ' h Q) : PostGT T K ρ1 H1 nms τ σ' h Q := fun ρ' H' u e' => p ρ' H' u (e.trans e')
theorem PostI.ext (e : Ext ρ ρ1 H H1) {r : IT} {h : MH} {Q : It → Hp → Prop} (p : PostI T K ρ H r h Q) : PostI T K ρ1 H1 r h Q := fun ρ' H' u e' => p ρ' H' u (e.trans e')
theorem PostH.ext (e : Ext ρ ρ1 H H1) {h : MH} {Q : Hp → Prop} (p : PostH T K ρ H h Q) : PostH T K ρ1 H1 h Q := fun ρ' H' e' => p ρ' H' (e.trans e')
theorem PostC.ext (e : Ext ρ ρ1 H H1) {r : Res} {Q : VK} {E : XK} (p : PostC T K ρ H r Q E) : PostC T K ρ1 H1 r Q E := by
  cases r with
  | ok v h => exact PostE.ext e p
  | ex c fs h => exact PostX.ext e p
theorem PostG.gt {nms : List Nat} {τ : St} {σ' : Ev} {h : MH} {Q : St → Hp → Prop} (p : PostG T K ρ H σ' h Q) : PostGT T K ρ H nms τ σ' h Q := fun ρ' H' u e s r _ => p ρ' H' u e s r
end
/-- what each judgement gives -/
def Mot (T : Tab) : J → Prop
  | .e d e σ h v h' => ∀ (X : Cx) (c : CC) (ex : Expr) (n : Nat) ρ H τ Q, EC T c d X → (ck T n).e c e ex = true → Sim T X.K ρ H h → RS X.K ρ H σ τ → PostE T X.K ρ H v h' Q → wE X ex τ H Q
  | .x d e σ h cc fs h' => ∀ (X : Cx) (c : CC) (W : WX) (ex : Expr) (n : Nat) ρ H τ Q, SC T c d X W → (ck T n).e c e ex = true → Sim T X.K ρ H h → RS X.K ρ H σ τ → PostX T X.K ρ H cc fs h' (fun cls dd H' => W cls dd τ H') → wE X ex τ H Q
  | .es d es σ h vs h' => ∀ (X : Cx) (c : CC) (exs : List Expr) (n : Nat) ρ H τ Q, EC T c d X → allB2 ((ck T n).e c) es exs = true → exs.all noStar1 = true → Sim T X.K ρ H h → RS X.K ρ H σ τ → PostA T X.K ρ H vs h' Q → wA X exs τ H Q
  | .t d e σ h b h' => ∀ (X : Cx) (c : CC) (ex : Expr) (n : Nat) ρ H τ Q, EC T c d X → (ck T n).e c e ex = true → Sim T X.K ρ H h → RS X.K ρ H σ τ → PostT T X.K ρ H b h' Q → wT X ex τ H Q ∧ ((∃ op xs pos, ex = .BoolOp op xs pos) → wW X ex τ H Q)
  | .i d it σ h r h' => ∀ (X : Cx) (c : CC) (tg ex : Expr) (n : Nat) ρ H τ R, EC T c d X → (ck T n).i c it ex = true → tgOk it tg = true → Sim T X.K ρ H h → RS X.K ρ H σ τ → PostI T X.K ρ H r h' R → wI X tg ex τ H R
  | .g d t v σ h σ' h' => ∀ (X : Cx) (c : CC) (ex : Expr) (n : Nat) ρ H τ u Q, EC T c d X → (ck T n).t c t ex = true → Sim T X.K ρ H h → RS X.K ρ H σ τ → RV X.K ρ H v u → PostGT T X.K ρ H t.nms τ σ' h' Q → wG X ex u τ H Q
  | .gs d ts vs σ h σ' h' => ∀ (X : Cx) (c : CC) (exs : List Expr) (n : Nat) ρ H τ us Q, EC T c d X → allB2 ((ck T n).t c) ts exs = true → exs.all noStar1 = true → Sim T X.K ρ H h → RS X.K ρ H σ τ → RVs X.K ρ H vs us → PostGT T X.K ρ H (MT.nmss ts) τ σ' h' Q → wGs X exs us τ H Q
  | .s d s σ h f => ∀ (X : Cx) (c : CC) (W : WX) (st : Stmt) (n : Nat) ρ H τ D, SC T c d X W → (ckSt T n).s c s st = true → Sim T X.K ρ H h → RS X.K ρ H σ τ → PostS T X.K ρ H f D W → wS X st D τ H
  | .ss d s σ h f => ∀ (X : Cx) (c : CC) (W : WX) (st : List Stmt) (n : Nat) ρ H τ D, SC T c d X W → allB2 ((ckSt T n).s c) s st = true → Sim T X.K ρ H h → RS X.K ρ H σ τ → PostS T X.K ρ H f D W → wSs X st D τ H
  | .fo d t r i b σ h f => ∃ m, ∀ (X : Cx) (c : CC) (W : WX) (te : Expr) (st : List Stmt) (n n2 : Nat) ρ H τ D J, SC T c d X W → (ck T n).t c t te = true → allB2 ((ckSt T n2).s c) b st = true → Sim T X.K ρ H h → RS X.K ρ H σ τ → ItAt X.K ρ H r J → PostS T X.K ρ H f D W → FoW X te st J D m i τ H
  | .wh d e b σ h f => ∃ m, ∀ (X : Cx) (c : CC) (W : WX) (ce : Expr) (st : List Stmt) (n n2 : Nat) ρ H τ D, SC T c d X W → (ck T n).e c e ce = true → allB2 ((ckSt T n2).s c) b st = true → Sim T X.K ρ H h → RS X.K ρ H σ τ → PostS T X.K ρ H f D W → WhW X ce st D m τ H
  | .cl d f vs h r => ∀ (P : Program) (w : World) (K : PySem.W.Frag) (mg : Str → Option Value) (base : Heap) (F : Fn), Facts T K mg → T.fns[f]? = some F → vs.length = F.k ∧
      ∀ fd, FunD K F.name F.qual (defArgs F.st) (defBody F.st) (defScope F.st) [] [] (fAd K F) fd → FnOk P w K mg base (L2.CX P w) d (fAd K F) fd (F.N.take F.k) (spC T K vs h r F.k)
  | .cp d elt own t ifs r i D σ h h' => ∃ m, ∀ (X : Cx) (scope : Scope) (c : CC) (te : Expr) (fe : List Expr) (ee : Expr) (n : Nat) ρ H τ Da J Q, (∀ s H0 C cl fp, EC T c d (X.blk s H0 scope (compEnvC scope cl C X.env) fp)) →
      (ck T n).t c t te = true → allB2 ((ck T n).e c) ifs fe = true → (ck T n).e c elt ee = true → subB t.nms own = true → Sim T X.K ρ H h → RS X.K ρ H σ τ → ItAt X.K ρ H r J → ρ[D]? = some Da → PostH T X.K ρ H h' Q → LcW X scope te fe ee own J Da τ Q m i H
  | .dp d k v own t ifs r i D σ h h' => ∃ m, ∀ (X : Cx) (scope : Scope) (c : CC) (te : Expr) (fe : List Expr) (ke ve : Expr) (n : Nat) ρ H τ Da J Q, (∀ s H0 C cl fp, EC T c d (X.blk s H0 scope (compEnvC scope cl C X.env) fp)) →
      (ck T n).t c t te = true → allB2 ((ck T n).e c) ifs fe = true → (ck T n).e c k ke = true → (ck T n).e c v ve = true → subB t.nms own = true → Sim T X.K ρ H h → RS X.K ρ H σ τ → ItAt X.K ρ H r J → ρ[D]? = some Da → PostH T X.K ρ H h' Q → DcW X scope te fe ke ve own J Da τ Q m i H
  | .cq d elt own vs1 t ifs t1 it1 ifs1 r i D σ h h' => ∃ m, ∀ (X : Cx) (scope : Scope) (c : CC) (te : Expr) (fe : List Expr) (te1 ie1 : Expr) (fe1 : List Expr) (ee : Expr) (n : Nat) ρ H τ Da J Q, (∀ s H0 C cl fp, EC T c d (X.blk s H0 scope (compEnvC scope cl C X.env) fp)) →
      (ck T n).t c t te = true → allB2 ((ck T n).e c) ifs fe = true → (ck T n).t c t1 te1 = true → (ck T n).i c it1 ie1 = true → tgOk it1 te1 = true → allB2 ((ck T n).e c) ifs1 fe1 = true → (ck T n).e c elt ee = true → subB t.nms own = true → subB t1.nms vs1 = true →
      Sim T X.K ρ H h → RS X.K ρ H σ τ → ItAt X.K ρ H r J → ρ[D]? = some Da → PostH T X.K ρ H h' Q → LqW X scope te fe te1 ie1 fe1 ee own vs1 J Da τ Q m i H
  | .ts d ifs σ h b h' => ∀ (X : Cx) (c : CC) (fe : List Expr) (n : Nat) ρ H τ Q, EC T c d X → allB2 ((ck T n).e c) ifs fe = true → Sim T X.K ρ H h → RS X.K ρ H σ τ → PostT T X.K ρ H b h' Q → wTs X fe τ H Q
end Mp
namespace Mp
open PySem PySem.Spec L2
/-! ### argument lists of any length -/
theorem evalArgs_any {M : Model} {A : Around} {E : Value → Shared → Prop} {s : Shared} {f : Value} {es : List Expr} {env : Env} {pos : Pos} {Q : Args → Shared → Prop} (hs : es.all noStar1 = true)
    (h : wpAny M A (spliced (backTo pos (starEach es env))) (fun vs s' => Q ⟨vs, []⟩ s') E s) : wpAny M A (evalArgs f true (backTo pos (starEach es env)) []) Q E s := by
  cases es with
  | nil =>
    have h : wpAny M A (spliced []) (fun vs s' => Q ⟨vs, []⟩ s') E s := h
    show wpAny M A (evalArgs f true [] []) Q E s
    unfold evalArgs
    show wpAny M A (spliced [] >>= _) Q E s
    refine wpAny_bind (wpAny_mono h (fun vs s' h' => ?_) fun _ _ x => x)
    refine wpAny_holding ?_
    exact wpAny_bind (wpAny_pure (wpAny_bind (wpAny_pure (wpAny_pure h'))))
  | cons e es =>
    rw [List.all_cons, Bool.and_eq_true] at hs
    rw [star1 hs.1] at h ⊢
    exact Calls.evalArgs_plain h
theorem callWith_any {K : PySem.W.Frag} {M : Model} {A : Around} {E : Value → Shared → Prop} {s : Shared} {f : Value} {first : List Value} {es : List Expr} {env : Env} {pos : Pos} {Q : Value → Shared → Prop} (hs : es.all noStar1 = true) (hk : PySem.W.keepIn K f = true)
    (h : wpAny M A (spliced (backTo pos (starEach es env))) (fun vs s₁ => K.In s₁.heap ∧ wpAny M A (call f (first ++ vs)) Q E s₁) E s) : wpAny M A (callWith pos f first (backTo pos (starEach es env)) []) Q E s :=
  PySem.W.callWith_of (by rw [(star_all hs pos env).1]; rfl) (PySem.W.keeps_K hk) (evalArgs_any hs h)
section
variable {X : Cx} {k : Nat} {f : Addr} {fd : FuncData} {ps : List Str} {sp : Sp} {E : XK} {x : Str} {p pos apos : Pos} {es : List Expr} {τ : St} {H : Hp} {Q : VK}
/-- f(e, ..) -/
theorem call_gen (F : FnOk X.prog X.w X.K X.mg X.base (L2.CX X.prog X.w) k f fd ps sp) (hr : Room k X.A) (hg : Gl X x) (hm : X.mg x = some (.ref f)) (hk : PySem.W.keepIn X.K (.ref f) = true) (hb : Binds X.K fd ps []) (hx : PassesAt (L2.CX X.prog X.w) X τ E)
    (hs : es.all noStar1 = true) (hdb : (x == ("__debug__" : Str)) = false) (h : wA X es τ H fun vs H1 => sp vs H1 Q E) : wE X (.Call (.Name x p) es [] pos) τ H Q := by
  intro pins s I
  refine wpAny_Call_Name_kw (ld_glob I hg hm ?_ hdb)
  refine callWith_any hs hk (thn (h pos pins s I) fun us s1 ⟨vs, H1, I1, r, q⟩ => ⟨I1.kIn, ?_⟩)
  exact run_fnSD (E := fun _ => E) (dvs := []) (ds := []) F hr hb .nil hx I1 r (by rw [List.append_nil]; exact q)
/-- o.m(e, ..) -/
theorem meth_gen {o : Expr} {m : Str} (F : FnOk X.prog X.w X.K X.mg X.base (L2.CX X.prog X.w) k f fd ps sp) (hr : Room k X.A) (hk : PySem.W.keepIn X.K (.ref f) = true) (hb : Binds X.K fd ps [])
    (hbase : baseOk o = true) (hl : (apos.endLine == pos.line) = true) (hs : es.all noStar1 = true) (hn : Nat.blt es.length 20 = true)
    (h : wE X o τ H fun x H1 => ∃ a C dx fs, x = .ref a ∧ H1 a = some (.ins C dx fs) ∧ fs.lookup m = none ∧ Cls X.K C ∧ Meth X.K C m f ∧ wA X es τ H1 fun vs H2 => sp (x :: vs) H2 Q fun _ _ _ => False) :
    wE X (.Call (.Attribute o m apos) es [] pos) τ H Q := by
  intro pins s I
  refine PySem.W.methodCall_KW (thn (h pins s I) fun u s1 ⟨x, H1, I1, rx, a, C, dx, fs, ex, ea, l, c, hm, q⟩ => ?_) (meth_form hbase hl hs hn)
  subst ex
  obtain rfl : u = Value.ref a := rx
  refine getmeth_ok I1 ea c hm l ?_
  refine callWith_any (first := [.ref a]) hs hk (thn (q pos pins s1 I1) fun us s2 ⟨vs, H2, I2, r, q2⟩ => ⟨I2.kIn, ?_⟩)
  exact run_fnSD (us := .ref a :: us) (vs := .ref a :: vs) (E := fun _ _ _ _ => False) (dvs := []) (ds := []) F hr hb .nil (fun _ _ _ _ _ _ c => by obtain ⟨_, _, _, _, _, _, _, _, _, _, _, _, z⟩ := c; exact z.elim) I2 (.cons rfl r) (by rw [List.append_nil]; exact q2)
theorem pass_no {X : Cx} {τ : St} : PassesAt (L2.CX X.prog X.w) X τ (fun _ _ _ => False) := fun _ _ _ _ _ _ c => by
  obtain ⟨_, _, _, _, _, _, _, _, _, _, _, _, z⟩ := c
  exact z.elim
theorem passes_no {X : Cx} : Passes (L2.CX X.prog X.w) X (fun _ _ _ => False) := fun _ _ _ _ _ _ _ c => by
  obtain ⟨_, _, _, _, _, _, _, _, _, _, _, _, z⟩ := c
  exact z.elim
/-- C(e, ..) -/
theorem make_gen {C : Addr} (M : Mk X.K C f) (F : FnOk X.prog X.w X.K X.mg X.base (L2.CX X.prog X.w) k f fd ps sp) (hr : Room (k + 1) X.A) (hg : Gl X x) (hm : X.mg x = some (.ref C)) (hb : Binds X.K fd ps [])
    (hs : es.all noStar1 = true) (hdb : (x == ("__debug__" : Str)) = false)
    (h : wA X es τ H fun vs H1 => ∀ x dx, H1 x = none → H1 dx = none → dx ≠ x → sp (.ref x :: vs) (upd (upd H1 dx (.own x)) x (.ins C dx [])) (fun v H2 => v = .non ∧ Q (.ref x) H2) fun _ _ _ => False) :
    wE X (.Call (.Name x p) es [] pos) τ H Q := by
  intro pins s I
  refine wpAny_Call_Name_kw (ld_glob I hg hm ?_ hdb)
  refine callWith_any hs M.kp (thn (h pos pins s I) fun us s1 ⟨vs, H1, I1, r, q⟩ => ⟨I1.kIn, ?_⟩)
  exact run_make (dvs := []) (ds := []) (E := fun _ _ _ => False) M F hr hb .nil passes_no I1 r (fun x dx h1 h2 h3 => by rw [List.append_nil]; exact q x dx h1 h2 h3)
/-- a built-in function -/
theorem blt_gen {id : String} (hg : Gl X x) (hm : X.mg x = none) (hv : bootBuiltins x = some (.builtin id)) (hs : es.all noStar1 = true) (hn : x ≠ "__name__") (hdb : (x == ("__debug__" : Str)) = false)
    (h : wA X es τ H fun vs H1 => wCall X (.builtin id) vs H1 Q) : wE X (.Call (.Name x p) es [] pos) τ H Q := by
  intro pins s I
  refine wpAny_Call_Name_kw (ld_blt I hg hm hv ?_ hn hdb)
  exact Calls.callWith_builtin (star_all hs pos X.env).1 (evalArgs_any hs (thn (h pos pins s I) fun us s1 ⟨vs, H1, I1, r1, q1⟩ => q1 pins s1 τ us I1 r1))
theorem ty_gen {ty : String} (hg : Gl X x) (hm : X.mg x = none) (hv : bootBuiltins x = some (.type ty)) (hs : es.all noStar1 = true) (hn : x ≠ "__name__") (hdb : (x == ("__debug__" : Str)) = false)
    (h : wA X es τ H fun vs H1 => wCall X (.type ty) vs H1 Q) : wE X (.Call (.Name x p) es [] pos) τ H Q := by
  intro pins s I
  refine wpAny_Call_Name_kw (ld_blt I hg hm hv ?_ hn hdb)
  exact PySem.callWith_type (star_all hs pos X.env).1 (evalArgs_any hs (thn (h pos pins s I) fun us s1 ⟨vs, H1, I1, r1, q1⟩ => q1 pins s1 τ us I1 r1))
/-- a method of a built-in type -/
theorem bm_gen {o : Expr} {m : Str} (hbase : baseOk o = true) (hl : (apos.endLine == pos.line) = true) (hs : es.all noStar1 = true) (hn : Nat.blt es.length 20 = true)
    (h : wE X o τ H fun x H1 => ∃ ty nm, PlainAttrs ty ∧ Slot ty m nm ∧ typeOf (.builtin nm) = pure (.type "method_descriptor") ∧ tyV X.K ty x H1 ∧ wA X es τ H1 fun vs H2 => wMt X nm x vs H2 Q) :
    wE X (.Call (.Attribute o m apos) es [] pos) τ H Q := by
  intro pins s I
  have hn' : es.length < 20 := by
    have : Nat.ble (es.length + 1) 20 = true := hn
    exact Nat.le_of_ble_eq_true this
  refine wpAny_Call_method_late (base_ok hbase _ _ _) (by
    rw [(star_all hs pos X.env).2]
    have e0 : backToKw pos (keywordEach [] X.env) = [] := rfl
    rw [e0]
    simp
    omega) hl rfl (thn (h pins s I) fun v s1 ⟨x, H1, I1, r1, ty, nm, pa, slot, hty, t, q⟩ => ?_)
  obtain ⟨h1, h2⟩ := tyV_is I1 r1 t
  refine ⟨ty, nm, pa, slot, hty, h1, h2, ?_⟩
  exact Calls.callWith_builtin (first := [v]) (star_all hs pos X.env).1 (evalArgs_any hs (thn (q pos pins s1 I1) fun us s2 ⟨vs, H2, I2, r2, q2⟩ => q2 pins s2 τ (v :: us) I2 (.cons r1 r2)))
end
end Mp
namespace Mp
open PySem PySem.Spec L2
/-! ### fields -/
section
variable {K : PySem.W.Frag} {nm : List Str} {ρ : List Addr} {H : Hp}
theorem FR.look {f : Nat} {x : Str} (nd : nm.Nodup) (hx : nm[f]? = some x) : ∀ {fs : List (Nat × PV)} {fu : List (Str × V)}, FR K nm ρ H fs fu →
    (lookF f fs = none ∧ fu.lookup x = none) ∨ ∃ v u, lookF f fs = some v ∧ fu.lookup x = some u ∧ RV K ρ H v u := by
  intro fs fu r
  induction r with
  | nil => exact .inl ⟨rfl, rfl⟩
  | cons hd tl ih =>
    rename_i p q ps qs
    obtain ⟨e1, e2⟩ := hd
    by_cases hk : p.1 = f
    · rw [hk] at e1
      rw [hx] at e1
      have e3 : x = q.1 := Option.some.inj e1
      refine .inr ⟨p.2, q.2, ?_, ?_, e2⟩
      · show (if p.1 = f then some p.2 else _) = _
        rw [if_pos hk]
      · show List.lookup x ((q.1, q.2) :: qs) = _
        rw [List.lookup_cons, e3]
        simp
    · have hne : x ≠ q.1 := fun z => hk (nodup_ix nd e1 (by rw [← z]; exact hx))
      have l1 : lookF f (p :: ps) = lookF f ps := by
        show (if p.1 = f then some p.2 else _) = _
        rw [if_neg hk]
      have l2 : List.lookup x (q :: qs) = List.lookup x qs := by
        show List.lookup x ((q.1, q.2) :: qs) = _
        rw [List.lookup_cons]
        have : (x == q.1) = false := beq_eq_false_iff_ne.mpr hne
        rw [this]
      rw [l1, l2]
      exact ih
theorem FR.put {f : Nat} {x : Str} {v : PV} {u : V} (nd : nm.Nodup) (hx : nm[f]? = some x) (rv : RV K ρ H v u) : ∀ {fs : List (Nat × PV)} {fu : List (Str × V)}, FR K nm ρ H fs fu → FR K nm ρ H (putM f v fs) (putF x u fu) := by
  intro fs fu r
  induction r with
  | nil => exact .cons ⟨hx, rv⟩ .nil
  | cons hd tl ih =>
    rename_i p q ps qs
    obtain ⟨e1, e2⟩ := hd
    by_cases hk : p.1 = f
    · have e3 : q.1 = x := by rw [hk, hx] at e1; exact (Option.some.inj e1).symm
      have l1 : putM f v (p :: ps) = (p.1, v) :: ps := by
        show (if p.1 = f then _ else _) = _
        rw [if_pos hk]
      have l2 : putF x u (q :: qs) = (q.1, u) :: qs := by
        show (if q.1 = x then _ else _) = _
        rw [if_pos e3]
      rw [l1, l2]
      exact .cons ⟨e1, rv⟩ tl
    · have hne : ¬ q.1 = x := fun z => hk (nodup_ix nd e1 (by rw [z]; exact hx))
      have l1 : putM f v (p :: ps) = p :: putM f v ps := by
        show (if p.1 = f then _ else _) = _
        rw [if_neg hk]
      have l2 : putF x u (q :: qs) = q :: putF x u qs := by
        show (if q.1 = x then _ else _) = _
        rw [if_neg hne]
      rw [l1, l2]
      exact .cons ⟨e1, e2⟩ ih
end
/-! ### names -/
section
variable {T : Tab} {X : Cx} {c : CC} {d : Nat}
theorem dbg_ok {x : Str} (h : okName x = true) : (x == ("__debug__" : Str)) = false := by
  unfold okName at h
  rw [Bool.and_eq_true, Bool.not_eq_true'] at h
  exact h.1
theorem gl_ok (E : EC T c d X) {x : Str} (h : glB c x = true) : Gl X x ∧ (x == ("__debug__" : Str)) = false := by
  unfold glB at h
  rw [Bool.and_eq_true, decide_eq_true_eq] at h
  exact ⟨by show X.env.scope.names.lookup x = _; rw [E.sc]; exact h.1, dbg_ok h.2⟩
theorem slot_ok (E : EC T c d X) {i : Nat} {x : Str} (h : slotB c i x = true) : X.N[i]? = some x := by
  unfold slotB at h
  rw [Bool.and_eq_true, decide_eq_true_eq] at h
  rw [E.hN]
  exact h.1
theorem okN2 {c : CC} {i : Nat} {x : Str} (h : slotB c i x = true) : (x == ("__debug__" : Str)) = false ∧ (x == ("__classdict__" : Str)) = false := by
  unfold slotB okName at h
  simp only [Bool.and_eq_true, Bool.not_eq_true'] at h
  exact h.2
theorem vis_ok (E : EC T c d X) {x : Str} (h : visB c x = true) : Vis X.env.scope x := by
  unfold visB at h
  rw [← E.sc] at h
  split at h
  · exact .inl (by assumption)
  · exact .inr (.inl (by assumption))
  · exact .inr (.inr (by assumption))
  · cases h
theorem loc_ok (E : EC T c d X) {x : Str} (h : locB c x = true) : L2.Loc X.env.scope x ∧ (X.fn x = true ∨ X.env.scope.names.lookup x = some .local) := by
  unfold locB at h
  rw [← E.sc] at h
  split at h
  · exact ⟨.inl (by assumption), .inr (by assumption)⟩
  · exact ⟨.inr (by assumption), .inl (E.fn _ h)⟩
  · cases h
theorem args_ok {f : ME → Expr → Bool} {as : List ME} {es : List Expr} (h : argsB f as es = true) : es.all noStar1 = true ∧ allB2 f as es = true ∧ Nat.blt es.length 20 = true := by
  unfold argsB at h
  rw [Bool.and_eq_true, Bool.and_eq_true] at h
  exact ⟨h.1.1, h.1.2, h.2⟩
theorem blt20 {n : Nat} (h : Nat.blt n 20 = true) : n < 20 := by
  have : Nat.ble (n + 1) 20 = true := h
  exact Nat.le_of_ble_eq_true this
theorem bf_boot {id : Nat} {x : Str} (h : bfName id = some x) : (∃ b, bootBuiltins x = some (.builtin b)) ∨ ∃ b, bootBuiltins x = some (.type b) := by
  unfold bfName at h
  split at h <;> first
    | (cases h; exact .inl ⟨_, rfl⟩)
    | (cases h; exact .inr ⟨_, rfl⟩)
    | cases h
theorem blt_free (E : EC T c d X) {id : Nat} {x : Str} (h : bfName id = some x) : X.mg x = none ∧ x ≠ "__name__" := by
  unfold bfName at h
  split at h <;> first
    | (cases h; exact ⟨E.fa.free _ (by decide), by decide⟩)
    | cases h
end
section
variable {T : Tab} {d : Nat} {σ σ1 σ2 : Ev} {h h1 h2 h3 h' : MH} {a b : ME} {v x y : PV} {as : List ME} {vs : List PV}
theorem nock {P : Prop} {c : CC} {m : ME} {ex : Expr} (h : (ck T 0).e c m ex = true) : P := nomatch (show false = true from h)
theorem c_loc {i : Nat} (e : σ[i]? = some (some v)) : Mot T (.e d (.loc i) σ h v h) := by
  intro X c ex n ρ H τ Q E hck S R P
  cases n with
  | zero => exact nock hck
  | succ n =>
  have hck : ckE T (ck T n) c (.loc i) ex = true := hck
  simp only [ckE] at hck
  split at hck
  · simp only [Bool.and_eq_true] at hck
    refine wE.of (pe_var (slot_ok E hck.1) (vis_ok E hck.2) (okN2 hck.1).1 (okN2 hck.1).2) ?_
    obtain ⟨u, e1, e2⟩ := R.2 i v e
    exact ⟨u, e1, P.now S e2⟩
  · cases hck
theorem c_cst : Mot T (.e d (.cst v) σ h v h) := by
  intro X c ex n ρ H τ Q E hck S R P
  cases n with
  | zero => exact nock hck
  | succ n =>
  have hck : ckE T (ck T n) c (.cst v) ex = true := hck
  simp only [ckE] at hck
  split at hck
  · unfold constB at hck
    split at hck
    · exact wE.of pe_non (P.now S rfl)
    · have e := eq_of_beq hck
      subst e
      exact wE.of pe_bl (P.now S rfl)
    · have e := of_decide_eq_true hck
      subst e
      exact wE.of pe_int (P.now S rfl)
    · have e := of_decide_eq_true hck
      subst e
      exact wE.of pe_str (P.now S rfl)
    · cases hck
  · cases hck
theorem c_gv : Mot T (.e d (.gv v) σ h v h) := by
  intro X c ex n ρ H τ Q E hck S R P
  cases n with
  | zero => exact nock hck
  | succ n => exact nomatch (show false = true from hck)
theorem fld_inv {c f : Nat} (e : fldF T c f = true) : ∃ C, T.cls[c]? = some C ∧ C.exc = none ∧ C.fl.contains f = true := by
  unfold fldF at e
  split at e
  · rename_i C hC
    rw [Bool.and_eq_true] at e
    exact ⟨C, hC, Option.isNone_iff_eq_none.mp e.1, e.2⟩
  · cases e
theorem meth_inv {c m f : Nat} (e : methF T c m = some f) : ∃ C, T.cls[c]? = some C ∧ C.exc = none ∧ C.ms.lookup m = some f := by
  unfold methF at e
  split at e
  · rename_i C hC
    split at e
    · rename_i hn
      exact ⟨C, hC, Option.isNone_iff_eq_none.mp hn, e⟩
    · cases e
  · cases e
theorem c_fld {o : ME} {f m c : Nat} {fs : List (Nat × PV)} (i1 : Mot T (.e d o σ h (.ref m) h1)) (g : h1.get m = some (.ins c fs)) (hf : fldF T c f = true) (hl : lookF f fs = some v) : Mot T (.e d (.fld o f) σ h v h1) := by
  intro X cc ex n ρ H τ Q E hck S R P
  cases n with
  | zero => exact nock hck
  | succ n =>
  have hck : ckE T (ck T n) cc (.fld o f) ex = true := hck
  simp only [ckE] at hck
  split at hck
  · simp only [Bool.and_eq_true, decide_eq_true_eq] at hck
    obtain ⟨⟨hx, hb⟩, co⟩ := hck
    refine wE.of (pe_fld wE.pe (base_ok hb _ _ _)) (i1 X cc _ n ρ H τ _ E co S R fun ρ1 H1 u e1 S1 r1 => ?_)
    obtain ⟨a, C, dx, fu, rfl, z, hC, fr, q⟩ := insAt S1 r1 g
    obtain ⟨C', hC', hex, hfl⟩ := fld_inv hf
    rw [hC] at hC'
    cases hC'
    rcases FR.look E.fa.nmd hx fr with ⟨l1, _⟩ | ⟨w, u, l1, l2, rv⟩
    · rw [hl] at l1; cases l1
    · rw [hl] at l1
      cases l1
      exact ⟨a, _, dx, fu, u, rfl, q, E.fa.cl c C hC hex, E.fa.na c f C _ hC hex hfl hx, l2, P _ _ _ e1 S1 rv⟩
  · cases hck
theorem c_bin {op : Nat} (i1 : Mot T (.e d a σ h x h1)) (i2 : Mot T (.e d b σ h1 y h2)) (hb : binV op x y h2 = some (v, h3)) : Mot T (.e d (.bin op a b) σ h v h3) := by
  intro X c ex n ρ H τ Q E hck S R P
  cases n with
  | zero => exact nock hck
  | succ n =>
  have hck : ckE T (ck T n) c (.bin op a b) ex = true := hck
  simp only [ckE] at hck
  split at hck
  · simp only [Bool.and_eq_true, decide_eq_true_eq] at hck
    obtain ⟨⟨ho, ca⟩, cb⟩ := hck
    refine wE.of (pe_op wOp.op wE.pe wE.pe) ?_
    exact i1 X c _ n ρ H τ _ E ca S R fun ρ1 H1 xu e1 S1 r1 => i2 X c _ n ρ1 H1 τ _ E cb S1 (R.ext e1) fun ρ2 H2 yu e2 S2 r2 => bin_ok E S2 ho hb (r1.ext e2) r2 (P.ext (e1.trans e2))
  · cases hck
theorem c_neg {i : Int} (i1 : Mot T (.e d a σ h (.int i) h1)) : Mot T (.e d (.neg a) σ h (.int (-i)) h1) := by
  intro X c ex n ρ H τ Q E hck S R P
  cases n with
  | zero => exact nock hck
  | succ n =>
  have hck : ckE T (ck T n) c (.neg a) ex = true := hck
  simp only [ckE] at hck
  split at hck
  · refine wE.of (pe_un un_neg wE.pe) ?_
    exact i1 X c _ n ρ H τ _ E hck S R fun ρ1 H1 xu e1 S1 r1 => ⟨i, r1, P _ _ _ e1 S1 rfl⟩
  · cases hck
theorem c_not {b : Bool} (i1 : Mot T (.e d a σ h (.bl b) h1)) : Mot T (.e d (.not a) σ h (.bl (!b)) h1) := by
  intro X c ex n ρ H τ Q E hck S R P
  cases n with
  | zero => exact nock hck
  | succ n =>
  have hck : ckE T (ck T n) c (.not a) ex = true := hck
  simp only [ckE] at hck
  split at hck
  · refine wE.of (pe_not wE.pe) ?_
    exact i1 X c _ n ρ H τ _ E hck S R fun ρ1 H1 xu e1 S1 r1 => ⟨b, r1, P _ _ _ e1 S1 rfl⟩
  · cases hck
theorem c_andT (i1 : Mot T (.e d a σ h (.bl true) h1)) (i2 : Mot T (.e d b σ h1 v h2)) : Mot T (.e d (.andE a b) σ h v h2) := by
  intro X c ex n ρ H τ Q E hck S R P
  cases n with
  | zero => exact nock hck
  | succ n =>
  have hck : ckE T (ck T n) c (.andE a b) ex = true := hck
  simp only [ckE] at hck
  split at hck
  · rename_i ea eb rest pos _
    rw [Bool.and_eq_true] at hck
    obtain ⟨ca, cb⟩ := hck
    have key : ∀ {tb : TE}, PE X (.BoolOp .And (eb :: rest) pos) tb → (∀ ρ1 H1, Ext ρ ρ1 H H1 → Sim T X.K ρ1 H1 h1 → tb τ H1 Q) → wE X (.BoolOp .And (ea :: eb :: rest) pos) τ H Q := fun hp hq =>
      wE.of (pe_and wE.pe hp) (i1 X c _ n ρ H τ _ E ca S R fun ρ1 H1 xu e1 S1 r1 => ⟨true, r1, hq ρ1 H1 e1 S1⟩)
    cases rest with
    | nil => exact key (pe_one wE.pe) fun ρ1 H1 e1 S1 => i2 X c _ n ρ1 H1 τ _ E cb S1 (R.ext e1) (P.ext e1)
    | cons _ _ => exact key wE.pe fun ρ1 H1 e1 S1 => i2 X c _ n ρ1 H1 τ _ E cb S1 (R.ext e1) (P.ext e1)
  · cases hck
theorem c_andF (i1 : Mot T (.e d a σ h (.bl false) h1)) : Mot T (.e d (.andE a b) σ h (.bl false) h1) := by
  intro X c ex n ρ H τ Q E hck S R P
  cases n with
  | zero => exact nock hck
  | succ n =>
  have hck : ckE T (ck T n) c (.andE a b) ex = true := hck
  simp only [ckE] at hck
  split at hck
  · rename_i ea eb rest pos
    rw [Bool.and_eq_true] at hck
    exact wE.of (pe_and wE.pe wE.pe) (i1 X c _ n ρ H τ _ E hck.1 S R fun ρ1 H1 xu e1 S1 r1 => ⟨false, r1, P _ _ _ e1 S1 rfl⟩)
  · cases hck
theorem c_orF (i1 : Mot T (.e d a σ h (.bl false) h1)) (i2 : Mot T (.e d b σ h1 v h2)) : Mot T (.e d (.orE a b) σ h v h2) := by
  intro X c ex n ρ H τ Q E hck S R P
  cases n with
  | zero => exact nock hck
  | succ n =>
  have hck : ckE T (ck T n) c (.orE a b) ex = true := hck
  simp only [ckE] at hck
  split at hck
  · rename_i ea eb rest pos _
    rw [Bool.and_eq_true] at hck
    obtain ⟨ca, cb⟩ := hck
    have key : ∀ {tb : TE}, PE X (.BoolOp .Or (eb :: rest) pos) tb → (∀ ρ1 H1, Ext ρ ρ1 H H1 → Sim T X.K ρ1 H1 h1 → tb τ H1 Q) → wE X (.BoolOp .Or (ea :: eb :: rest) pos) τ H Q := fun hp hq =>
      wE.of (pe_or wE.pe hp) (i1 X c _ n ρ H τ _ E ca S R fun ρ1 H1 xu e1 S1 r1 => ⟨false, r1, hq ρ1 H1 e1 S1⟩)
    cases rest with
    | nil => exact key (pe_one wE.pe) fun ρ1 H1 e1 S1 => i2 X c _ n ρ1 H1 τ _ E cb S1 (R.ext e1) (P.ext e1)
    | cons _ _ => exact key wE.pe fun ρ1 H1 e1 S1 => i2 X c _ n ρ1 H1 τ _ E cb S1 (R.ext e1) (P.ext e1)
  · cases hck
theorem c_orT (i1 : Mot T (.e d a σ h (.bl true) h1)) : Mot T (.e d (.orE a b) σ h (.bl true) h1) := by
  intro X c ex n ρ H τ Q E hck S R P
  cases n with
  | zero => exact nock hck
  | succ n =>
  have hck : ckE T (ck T n) c (.orE a b) ex = true := hck
  simp only [ckE] at hck
  split at hck
  · rename_i ea eb rest pos
    rw [Bool.and_eq_true] at hck
    exact wE.of (pe_or wE.pe wE.pe) (i1 X c _ n ρ H τ _ E hck.1 S R fun ρ1 H1 xu e1 S1 r1 => ⟨true, r1, P _ _ _ e1 S1 rfl⟩)
  · cases hck
theorem c_cmp {op : Nat} {r : Bool} (i1 : Mot T (.e d a σ h x h1)) (i2 : Mot T (.e d b σ h1 y h2)) (hb : cmpV op x y h2 = some r) : Mot T (.e d (.cmp op a b) σ h (.bl r) h2) := by
  intro X c ex n ρ H τ Q E hck S R P
  cases n with
  | zero => exact nock hck
  | succ n =>
  have hck : ckE T (ck T n) c (.cmp op a b) ex = true := hck
  simp only [ckE] at hck
  split at hck
  · simp only [Bool.and_eq_true, decide_eq_true_eq, Bool.not_eq_true'] at hck
    obtain ⟨⟨⟨⟨ho, hm⟩, ca⟩, cb⟩, _⟩ := hck
    refine wE.of (pe_cmpR wOp.op wE.pe wE.pe hm) ?_
    exact i1 X c _ n ρ H τ _ E ca S R fun ρ1 H1 xu e1 S1 r1 => i2 X c _ n ρ1 H1 τ _ E cb S1 (R.ext e1) fun ρ2 H2 yu e2 S2 r2 => cmp_ok E S2 ho hb (r1.ext e2) r2 (P.ext (e1.trans e2))
  · cases hck
theorem look_some {K : PySem.W.Frag} {ρ : List Addr} {H : Hp} {k : Key} {kvs : List (Key × PV)} {ku : List (Key × V)} (r0 : KR K ρ H kvs ku) : (lookK k kvs).isSome = (valV ku k).isSome := by
  induction r0 with
  | nil => rfl
  | cons hd tl ih =>
    rename_i p q ps qs
    unfold lookK valV at ih ⊢
    rw [List.find?_cons, List.find?_cons, ← hd.1]
    by_cases hk : p.1 = k
    · simp [hk]
    · simpa [hk] using ih
theorem dict_in {K : PySem.W.Frag} {ρ : List Addr} {H : Hp} {m : Nat} {k : Key} {kvs : List (Key × PV)} {u : V} (S : Sim T K ρ H h) (g : h.get m = some (.dict kvs)) (r : RV K ρ H (.ref m) u) :
    ∃ a ku, u = .ref a ∧ H a = some (.dK ku) ∧ (lookK k kvs).isSome = (valV ku k).isSome := by
  obtain ⟨a, e, z⟩ := (show ∃ a, u = .ref a ∧ ρ[m]? = some a from r)
  obtain ⟨ku, rs, q⟩ := S.at z g
  exact ⟨a, ku, e, q, look_some rs⟩
theorem c_dIn {m : Nat} {k : Key} {kvs : List (Key × PV)} (i1 : Mot T (.e d a σ h x h1)) (i2 : Mot T (.e d b σ h1 (.ref m) h2)) (g : h2.get m = some (.dict kvs)) (hk : keyOf x = some k) : Mot T (.e d (.cmp 6 a b) σ h (.bl (lookK k kvs).isSome) h2) := by
  intro X c ex n ρ H τ Q E hck S R P
  cases n with
  | zero => exact nock hck
  | succ n =>
  have hck : ckE T (ck T n) c (.cmp 6 a b) ex = true := hck
  simp only [ckE] at hck
  split at hck
  · simp only [Bool.and_eq_true, decide_eq_true_eq, Bool.not_eq_true'] at hck
    obtain ⟨⟨⟨⟨ho, hm⟩, ca⟩, cb⟩, _⟩ := hck
    cases ho
    have hu := E.hu
    refine wE.of (pe_cmp (pc_din (by omega) wE.pe wE.pe) hm) ?_
    refine i1 X c _ n ρ H τ _ E ca S R fun ρ1 H1 xu e1 S1 r1 => i2 X c _ n ρ1 H1 τ _ E cb S1 (R.ext e1) fun ρ2 H2 yu e2 S2 r2 => ?_
    obtain ⟨ad, ku, rfl, q, hs⟩ := dict_in (k := k) S2 g r2
    exact ⟨ad, valV ku k, rfl, .inl ⟨ku, k, .inl q, keyOf_ok hk r1, rfl⟩, by rw [← hs]; exact P _ _ _ (e1.trans e2) S2 rfl⟩
  · cases hck
theorem c_dNotIn {m : Nat} {k : Key} {kvs : List (Key × PV)} (i1 : Mot T (.e d a σ h x h1)) (i2 : Mot T (.e d b σ h1 (.ref m) h2)) (g : h2.get m = some (.dict kvs)) (hk : keyOf x = some k) : Mot T (.e d (.cmp 7 a b) σ h (.bl (!(lookK k kvs).isSome)) h2) := by
  intro X c ex n ρ H τ Q E hck S R P
  cases n with
  | zero => exact nock hck
  | succ n =>
  have hck : ckE T (ck T n) c (.cmp 7 a b) ex = true := hck
  simp only [ckE] at hck
  split at hck
  · simp only [Bool.and_eq_true, decide_eq_true_eq, Bool.not_eq_true'] at hck
    obtain ⟨⟨⟨⟨ho, hm⟩, ca⟩, cb⟩, _⟩ := hck
    cases ho
    have hu := E.hu
    refine wE.of (pe_cmp (pc_dnotin (by omega) wE.pe wE.pe) hm) ?_
    refine i1 X c _ n ρ H τ _ E ca S R fun ρ1 H1 xu e1 S1 r1 => i2 X c _ n ρ1 H1 τ _ E cb S1 (R.ext e1) fun ρ2 H2 yu e2 S2 r2 => ?_
    obtain ⟨ad, ku, rfl, q, hs⟩ := dict_in (k := k) S2 g r2
    exact ⟨ad, valV ku k, rfl, .inl ⟨ku, k, .inl q, keyOf_ok hk r1, rfl⟩, by rw [← hs]; exact P _ _ _ (e1.trans e2) S2 rfl⟩
  · cases hck
/-- calls -/
theorem cl_sp {f d' : Nat} {r : Res} {X : Cx} {c : CC} {F : Fn} (E : EC T c d' X) (i : Mot T (.cl d f vs h r)) (hF : T.fns[f]? = some F) : vs.length = F.k ∧
    ∃ fd, FnOk X.prog X.w X.K X.mg X.base (L2.CX X.prog X.w) d (fAd X.K F) fd (F.N.take F.k) (spC T X.K vs h r F.k) ∧ Binds X.K fd (F.N.take F.k) [] ∧ PySem.W.keepIn X.K (.ref (fAd X.K F)) = true := by
  obtain ⟨hl, q⟩ := i X.prog X.w X.K X.mg X.base F E.fa hF
  obtain ⟨fd, FD, hB, _⟩ := E.fa.fn f F hF
  exact ⟨hl, fd, q fd FD, hB, FD.kp⟩
theorem cls_of {C : Cl} {c' : Nat} (h : T.cls[c']? = some C) : True := True.intro
theorem c_call {f : Nat} (i1 : Mot T (.es d as σ h vs h1)) (i2 : Mot T (.cl d f vs h1 (.ok v h2))) : Mot T (.e d (.call f as) σ h v h2) := by
  intro X c ex n ρ H τ Q E hck S R P
  cases n with
  | zero => exact nock hck
  | succ n =>
  have hck : ckE T (ck T n) c (.call f as) ex = true := hck
  simp only [ckE] at hck
  split at hck
  · simp only [Bool.and_eq_true] at hck
    obtain ⟨⟨hg, hf⟩, ha⟩ := hck
    split at hf
    · rename_i F hF
      rw [Bool.and_eq_true, decide_eq_true_eq] at hf
      obtain ⟨hs, hb, _⟩ := args_ok ha
      obtain ⟨g1, g2⟩ := gl_ok E hg
      obtain ⟨hl, fd, FO, hB, hk⟩ := cl_sp E i2 hF
      have hc0 : F.cls = none := Option.isNone_iff_eq_none.mp hf.2
      refine call_gen FO E.room g1 (by rw [← hf.1]; exact E.fa.gl f F hF hc0) hk hB pass_no hs g2 ?_
      exact i1 X c _ n ρ H τ _ E hb hs S R fun ρ1 H1 us e1 S1 r1 => ⟨by rw [← r1.len]; exact hl, ρ1, S1, r1, PostE.ext e1 P⟩
    · cases hf
  · cases hck
theorem c_xcall {f cc : Nat} {fs : List (Nat × PV)} (i1 : Mot T (.es d as σ h vs h1)) (i2 : Mot T (.cl d f vs h1 (.ex cc fs h2))) : Mot T (.x d (.call f as) σ h cc fs h2) := by
  intro X c W ex n ρ H τ Q SC hck S R P
  have E := SC.ec
  cases n with
  | zero => exact nock hck
  | succ n =>
  have hck : ckE T (ck T n) c (.call f as) ex = true := hck
  simp only [ckE] at hck
  split at hck
  · simp only [Bool.and_eq_true] at hck
    obtain ⟨⟨hg, hf⟩, ha⟩ := hck
    split at hf
    · rename_i F hF
      rw [Bool.and_eq_true, decide_eq_true_eq] at hf
      obtain ⟨hs, hb, _⟩ := args_ok ha
      obtain ⟨g1, g2⟩ := gl_ok E hg
      obtain ⟨hl, fd, FO, hB, hk⟩ := cl_sp E i2 hF
      have hc0 : F.cls = none := Option.isNone_iff_eq_none.mp hf.2
      refine call_gen FO E.room g1 (by rw [← hf.1]; exact E.fa.gl f F hF hc0) hk hB (passAt SC.tk τ) hs g2 ?_
      exact i1 X c _ n ρ H τ _ E hb hs S R fun ρ1 H1 us e1 S1 r1 => ⟨by rw [← r1.len]; exact hl, ρ1, S1, r1, PostX.ext e1 P⟩
    · cases hf
  · cases hck
/-- a new object and its dict -/
theorem Sim.madeIns {K : PySem.W.Frag} {ρ : List Addr} {H : Hp} (S : Sim T K ρ H h) {x dx C : Addr} {c : Nat} (hx : H x = none) (hdx : H dx = none) (ne : dx ≠ x) (hC : clA T K c = some C) :
    Ext ρ (ρ ++ [x]) H (upd (upd H dx (.own x)) x (.ins C dx [])) ∧ Sim T K (ρ ++ [x]) (upd (upd H dx (.own x)) x (.ins C dx [])) (h.new (.ins c [])) := by
  have S1 := SimH.fresh (o := .own x) S hdx
  have e1 := Ext.fresh (o := .own x) S hdx
  have hx1 : upd H dx (.own x) x = none := by rw [upd_ne (Ne.symm ne)]; exact hx
  have e2 := Ext.laid (o := .ins C dx []) S1 hx1
  exact ⟨e1.trans e2, S1.laid hx1 ⟨C, dx, [], hC, .nil, upd_same⟩⟩
theorem c_make {c f : Nat} (i1 : Mot T (.es (d + 1) as σ h vs h1)) (hm : methF T c 0 = some f) (i2 : Mot T (.cl d f (.ref h1.nx :: vs) (h1.new (.ins c [])) (.ok .non h2))) : Mot T (.e (d + 1) (.make c as) σ h (.ref h1.nx) h2) := by
  intro X cc ex n ρ H τ Q E hck S R P
  cases n with
  | zero => exact nock hck
  | succ n =>
  have hck : ckE T (ck T n) cc (.make c as) ex = true := hck
  simp only [ckE] at hck
  split at hck
  · simp only [Bool.and_eq_true] at hck
    obtain ⟨⟨hg, hf⟩, ha⟩ := hck
    split at hf
    · rename_i C hC
      rw [Bool.and_eq_true, decide_eq_true_eq] at hf
      obtain ⟨hs, hb, _⟩ := args_ok ha
      obtain ⟨g1, g2⟩ := gl_ok E hg
      obtain ⟨C', hC', hex, hms⟩ := meth_inv hm
      rw [hC] at hC'
      cases hC'
      obtain ⟨F, hF, M⟩ := E.fa.mkr c f C hC hex hms
      obtain ⟨hl, fd, FO, hB, hk⟩ := cl_sp E i2 hF
      refine make_gen M FO E.room g1 (by rw [← hf.1]; exact E.fa.cn c C hC) hB hs g2 ?_
      refine i1 X cc _ n ρ H τ _ E hb hs S R fun ρ1 H1 us e1 S1 r1 x dx hx hdx ne => ?_
      obtain ⟨e2, S2⟩ := Sim.madeIns (c := c) S1 hx hdx ne (C := He.ga X.K C.name) (by unfold clA; rw [hC]; rfl)
      have hz : (ρ1 ++ [x])[h1.nx]? = some x := by rw [← S1.len]; exact getLast_app
      refine ⟨by rw [List.length_cons, ← r1.len]; exact hl, ρ1 ++ [x], S2, .cons ⟨x, rfl, hz⟩ (r1.ext e2), fun ρ3 H3 u e3 S3 r3 => ⟨r3, ?_⟩⟩
      exact P ρ3 H3 _ ((e1.trans e2).trans e3) S3 ⟨x, rfl, e3.pre _ _ hz⟩
    · cases hf
  · cases hck
theorem c_meth {o : ME} {m ad c f : Nat} {fs : List (Nat × PV)} (i1 : Mot T (.e d o σ h (.ref ad) h1)) (g : h1.get ad = some (.ins c fs)) (hm : methF T c m = some f) (hl : lookF m fs = none) (i2 : Mot T (.es d as σ h1 vs h2)) (i3 : Mot T (.cl d f (.ref ad :: vs) h2 (.ok v h3))) :
    Mot T (.e d (.meth o m as) σ h v h3) := by
  intro X cc ex n ρ H τ Q E hck S R P
  cases n with
  | zero => exact nock hck
  | succ n =>
  have hck : ckE T (ck T n) cc (.meth o m as) ex = true := hck
  simp only [ckE] at hck
  split at hck
  · simp only [Bool.and_eq_true, decide_eq_true_eq] at hck
    obtain ⟨⟨⟨⟨hx, hb⟩, hline⟩, co⟩, ha⟩ := hck
    obtain ⟨hs, hba, h20⟩ := args_ok ha
    obtain ⟨C, hC, hex, hms⟩ := meth_inv hm
    obtain ⟨F, hF, M⟩ := E.fa.ms c m f C _ hC hex hms hx
    obtain ⟨hlen, fd, FO, hB, hk⟩ := cl_sp E i3 hF
    refine meth_gen FO E.room hk hB hb hline hs h20 ?_
    refine i1 X cc _ n ρ H τ _ E co S R fun ρ1 H1 u e1 S1 r1 => ?_
    obtain ⟨a, C', dx, fu, rfl, z, hC', fr, q⟩ := insAt S1 r1 g
    rw [hC] at hC'
    cases hC'
    rcases FR.look E.fa.nmd hx fr with ⟨_, l2⟩ | ⟨w, u, l1, _⟩
    · refine ⟨a, _, dx, fu, rfl, q, l2, E.fa.cl c C hC hex, M, ?_⟩
      exact i2 X cc _ n ρ1 H1 τ _ E hba hs S1 (R.ext e1) fun ρ2 H2 us e2 S2 r2 => ⟨by rw [List.length_cons, ← r2.len]; exact hlen, ρ2, S2, .cons ⟨a, rfl, e2.pre _ _ z⟩ r2, PostE.ext (e1.trans e2) P⟩
    · rw [hl] at l1; cases l1
  · cases hck
theorem c_bf {id : Nat} (i1 : Mot T (.es d as σ h vs h1)) (hb : bfn id vs h1 = some (v, h2)) : Mot T (.e d (.bf id as) σ h v h2) := by
  intro X c ex n ρ H τ Q E hck S R P
  cases n with
  | zero => exact nock hck
  | succ n =>
  have hck : ckE T (ck T n) c (.bf id as) ex = true := hck
  simp only [ckE] at hck
  split at hck
  · simp only [Bool.and_eq_true, decide_eq_true_eq] at hck
    obtain ⟨⟨⟨hg, hn⟩, ha⟩, _⟩ := hck
    obtain ⟨hs, hba, _⟩ := args_ok ha
    obtain ⟨g1, g2⟩ := gl_ok E hg
    obtain ⟨m1, m2⟩ := blt_free E hn
    have hv : (∃ b, bootBuiltins _ = some (.builtin b)) ∨ ∃ b, bootBuiltins _ = some (.type b) := bf_boot hn
    rcases hv with ⟨b, hv⟩ | ⟨b, hv⟩
    · refine blt_gen g1 m1 hv hs m2 g2 ?_
      refine i1 X c _ n ρ H τ _ E hba hs S R fun ρ1 H1 us e1 S1 r1 => ?_
      cases bfn_ok E S1 hn hb r1 (PostE.ext e1 P) with
      | fn id hb w => rw [hv] at hb; cases hb; exact w
      | ty id hb w => rw [hv] at hb; cases hb
    · refine ty_gen g1 m1 hv hs m2 g2 ?_
      refine i1 X c _ n ρ H τ _ E hba hs S R fun ρ1 H1 us e1 S1 r1 => ?_
      cases bfn_ok E S1 hn hb r1 (PostE.ext e1 P) with
      | fn id hb w => rw [hv] at hb; cases hb
      | ty id hb w => rw [hv] at hb; cases hb; exact w
  · cases hck
theorem c_bm {id : Nat} {o : ME} (i1 : Mot T (.e d o σ h x h1)) (ht : tyB id x h1 = true) (i2 : Mot T (.es d as σ h1 vs h2)) (hb : bmn id x vs h2 = some (v, h3)) : Mot T (.e d (.bm id o as) σ h v h3) := by
  intro X c ex n ρ H τ Q E hck S R P
  cases n with
  | zero => exact nock hck
  | succ n =>
  have hck : ckE T (ck T n) c (.bm id o as) ex = true := hck
  simp only [ckE] at hck
  split at hck
  · simp only [Bool.and_eq_true, decide_eq_true_eq] at hck
    obtain ⟨⟨⟨⟨⟨hn, hbo⟩, hline⟩, co⟩, ha⟩, _⟩ := hck
    obtain ⟨hs, hba, h20⟩ := args_ok ha
    obtain ⟨ty, nm, hsl, pa, sl, hty⟩ := bm_static hn
    refine bm_gen hbo hline hs h20 ?_
    refine i1 X c _ n ρ H τ _ E co S R fun ρ1 H1 u e1 S1 r1 => ⟨ty, nm, pa, sl, hty, bm_ty S1 hn hsl ht r1, ?_⟩
    exact i2 X c _ n ρ1 H1 τ _ E hba hs S1 (R.ext e1) fun ρ2 H2 us e2 S2 r2 => bmn_ok S2 hsl hb (r1.ext e2) r2 (PostE.ext (e1.trans e2) P)
  · cases hck
end
end Mp
namespace Mp
open PySem PySem.Spec L2
section
variable {X : Cx} {k : Nat} {f : Addr} {fd : FuncData} {ps : List Str} {sp : Sp} {τ : St} {H : Hp} {Q : VK}
/-- a def called from within a built-in function -/
theorem run_in1 {pins : List (Addr × Obj)} {s : Shared} {us : List Value} {vs : List V} (F : FnOk X.prog X.w X.K X.mg X.base (L2.CX X.prog X.w) k f fd ps sp) (hr : Room (k + 1) X.A) (hb : Binds X.K fd ps [])
    (I : Inv X pins τ H s) (r : Vals vs us) (h : sp vs H Q fun _ _ _ => False) : wpAny (model X.prog X.w) X.A.in1 (call (.ref f) us) (EP X pins τ Q) X.xe s := by
  have hl : us.length = ps.length := by rw [← r.length]; exact F.len _ _ _ _ h
  have hB := hb s us I.kIn (by rw [List.append_nil]; exact hl)
  rw [List.append_nil] at hB
  have hrun := F.run X.A.in1 X.stack s H ⟨us, []⟩ us vs Q (fun _ _ _ => False) hr.in1 I.env0.in1 hB r h
  refine wpAny_call (codeAny_mono hrun fun rr s' hq => ?_)
  cases rr with
  | error e => obtain ⟨_, _, _, _, _, _, _, _, _, _, _, _, z⟩ := hq; exact z.elim
  | ok fl =>
    cases fl with
    | ret u => exact I.after hq
    | next => exact False.elim hq
    | brk => exact False.elim hq
    | cont => exact False.elim hq
/-- len(o) by an own __len__ -/
theorem own_len {a dx C : Addr} {fs : List (Str × V)} {n : Int} (F : FnOk X.prog X.w X.K X.mg X.base (L2.CX X.prog X.w) k f fd ps sp) (hr : Room (k + 1) X.A) (hb : Binds X.K fd ps []) (hs : PySem.W.findIn X.K (.ref C) "__len__" = some (some (.ref f)))
    (hf : PySem.W.isFn X.K (.ref f) = true) (e : H a = some (.ins C dx fs)) (h0 : 0 ≤ n) (h1 : n < 2 ^ 63) (h : sp [.ref a] H (fun v H2 => v = .int n ∧ Q (.int n) H2) fun _ _ _ => False) : wCall X (.builtin "len") [.ref a] H Q := by
  intro pins s σ us I r
  rw [Vals.ref1 r]
  obtain ⟨mA, O, _⟩ := ins_get I.hok e
  obtain ⟨od, J, _⟩ := O.look
  obtain ⟨m, fr⟩ := I.fr
  refine PySem.W.len_K fr I.ok.mod.kin J hs hf (thn (run_in1 (vs := [.ref a]) F hr hb I (.cons rfl .nil) h) fun v s1 ⟨x, H1, I1, rx, ex, q⟩ => ?_)
  subst ex
  obtain ⟨t, rfl⟩ := rx
  exact ⟨⟨h0, h1⟩, .int n, H1, I1.tok _, ⟨_, rfl⟩, q⟩
/-- o[i] -/
def wTail (X : Cx) (oe ie : Expr) : R2 := fun x y H Q => ∀ pins s σ v u, Inv X pins σ H s → RelV x v → RelV y u → wpAny (model X.prog X.w) X.A (PyProof.Rows.subscriptTail oe ie v u) (EP X pins σ Q) X.xe s
theorem sub_gen {oe ie : Expr} {pos : Pos} (h : wE X oe τ H fun x H1 => wE X ie τ H1 fun y H2 => wTail X oe ie x y H2 Q) : wE X (.Subscript oe ie pos) τ H Q := by
  intro pins s I
  exact PyProof.Rows.Subscript_ (thn (h pins s I) fun v s1 ⟨x, H1, I1, rx, q⟩ => thn (q pins s1 I1) fun u s2 ⟨y, H2, I2, ry, q2⟩ => q2 pins s2 τ v u I2 rx ry)
theorem own_item {oe ie : Expr} {a dx C : Addr} {y : V} {fs : List (Str × V)} (F : FnOk X.prog X.w X.K X.mg X.base (L2.CX X.prog X.w) k f fd ps sp) (hr : Room (k + 1) X.A) (hb : Binds X.K fd ps []) (hs : PySem.W.findIn X.K (.ref C) "__getitem__" = some (some (.ref f)))
    (hf : PySem.W.isFn X.K (.ref f) = true) (hf2 : PySem.W.fnIn X.K f = true) (hi : notSlice ie = true) (e : H a = some (.ins C dx fs)) (h : sp [.ref a, y] H Q fun _ _ _ => False) : wTail X oe ie (.ref a) y H Q := by
  intro pins s σ v u I rx ry
  obtain rfl : v = Value.ref a := rx
  obtain ⟨mA, O, _⟩ := ins_get I.hok e
  obtain ⟨od, J, _⟩ := O.look
  obtain ⟨m, fr⟩ := I.fr
  refine PySem.W.sub_K fr I.ok.mod.kin J hs hf2 hf (run_in1 (vs := [.ref a, y]) F hr hb I (.cons rfl (.cons ry .nil)) h) ?_
  cases ie <;> first | rfl | cases hi
end
section
variable {T : Tab} {d : Nat} {σ σ1 σ2 : Ev} {h h1 h2 h3 h' : MH} {a b : ME} {v x y : PV} {as : List ME} {vs : List PV}
theorem c_lenset {e : ME} {n : Int} (i1 : Mot T (.e d e σ h v h1)) (hn : lensetV v h1 = some n) : Mot T (.e d (.lenset e) σ h (.int n) h1) := by
  intro X c ex n ρ H τ Q E hck S R P
  cases n with
  | zero => exact nock hck
  | succ n =>
  have hck : ckE T (ck T n) c (.lenset e) ex = true := hck
  simp only [ckE] at hck
  split at hck
  · rename_i x p y p2 ea q pos _
    simp only [Bool.and_eq_true, decide_eq_true_eq] at hck
    obtain ⟨⟨⟨⟨⟨hg, hg2⟩, ex1⟩, ex2⟩, hst⟩, ca⟩ := hck
    subst ex1 ex2
    obtain ⟨g1, g2⟩ := gl_ok E hg
    obtain ⟨g3, g4⟩ := gl_ok E hg2
    have m1 : X.mg ("len" : Str) = none := E.fa.free _ (by decide)
    have m2 : X.mg ("set" : Str) = none := E.fa.free _ (by decide)
    have hu := E.hu
    have one : (∃ ts, tupsM ts = some [] ) → True := fun _ => True.intro
    -- ints
    by_cases hint : ∃ m xs is, v = .ref m ∧ h1.get m = some (.lst xs) ∧ intsM xs = some is
    · refine wE.of (pe_lenSetI E.calm g1 m1 g3 m2 wE.pe (star1 hst _)) ?_
      refine i1 X c _ n ρ H τ _ E ca S R fun ρ1 H1 u e1 S1 r1 => ?_
      obtain ⟨m, xs, is, rfl, g, hi⟩ := hint
      have hn2 : (match h1.get m with
        | some (.lst xs) => match intsM xs with
          | some is => if is.length < 64 ∧ is.Nodup then some (is.length : Int) else none
          | none => match tupsM xs with
            | some ts => if ts.length < 64 then some ((dedupM ts).length : Int) else none
            | none => none
        | _ => none) = some _ := hn
      rw [g] at hn2
      simp only [hi] at hn2
      split at hn2
      · rename_i hl
        obtain ⟨a, us, rfl, z, rs, q⟩ := listAt S1 r1 g
        cases hn2
        exact ⟨a, is, rfl, by rw [← intsM_ok hi rs]; exact SqL.of q, hl.1, hl.2, P _ _ _ e1 S1 rfl⟩
      · cases hn2
    · refine blt_gen (id := "len") g1 m1 rfl (by show (noStar1 _ && true) = true; rfl) (by decide) g2 ?_
      refine wA.of (pa_cons wE.pe pa_nil (star1 rfl _)) ?_
      refine ty_gen (ty := "set") g3 m2 rfl (by show (noStar1 ea && true) = true; rw [hst]; rfl) (by decide) g4 ?_
      refine wA.of (pa_cons wE.pe pa_nil (star1 hst _)) ?_
      refine i1 X c _ n ρ H τ _ E ca S R fun ρ1 H1 u e1 S1 r1 => ?_
      cases v with
      | ref m =>
        have hn2 : (match h1.get m with
          | some (.lst xs) => match intsM xs with
            | some is => if is.length < 64 ∧ is.Nodup then some (is.length : Int) else none
            | none => match tupsM xs with
              | some ts => if ts.length < 64 then some ((dedupM ts).length : Int) else none
              | none => none
          | _ => none) = some _ := hn
        split at hn2
        · rename_i xs g
          split at hn2
          · rename_i is hi
            exact absurd ⟨m, xs, is, rfl, g, hi⟩ hint
          · rename_i hi
            split at hn2
            · rename_i ts hts
              split at hn2
              · rename_i hl
                cases hn2
                obtain ⟨ad, us, rfl, z, rs, q⟩ := listAt S1 r1 g
                obtain ⟨ks, k1, k2, k3⟩ := tupsM_ok hts rs
                refine wCall.of (cr_setOfT E.calm (by omega)) ⟨ad, ks, rfl, by rw [← k1]; exact SqL.of q, k3, by rw [← k2, List.length_map] at hl; exact hl, fun p L hp l1 l2 => ?_⟩
                refine wCall.of cr_lenST ⟨p, L, rfl, upd_same, fun hnd => ?_⟩
                have hlen : L.length = (dedupM ts).length := by
                  rw [← dedupM_len (m := L.map (·.2)) hnd (fun x hx => ?_) (fun x hx => ?_), List.length_map]
                  · obtain ⟨y, hy, rfl⟩ := List.mem_map.mp hx
                    rw [← k2]
                    exact List.mem_map.mpr ⟨y, l1 y hy, rfl⟩
                  · rw [← k2] at hx
                    obtain ⟨y, hy, rfl⟩ := List.mem_map.mp hx
                    exact l2 y hy
                rw [hlen]
                exact P ρ1 _ _ (e1.trans (Ext.fresh S1 hp)) (S1.fresh hp) rfl
              · cases hn2
            · cases hn2
        · cases hn2
      | _ => cases hn
  · cases hck
theorem c_lenO {m c f : Nat} {n : Int} {fs : List (Nat × PV)} (i1 : Mot T (.e (d + 1) a σ h (.ref m) h1)) (g : h1.get m = some (.ins c fs)) (hm : methF T c 4 = some f) (i2 : Mot T (.cl d f [.ref m] h1 (.ok (.int n) h2))) (h0 : 0 ≤ n) (hn1 : n < 2 ^ 63) :
    Mot T (.e (d + 1) (.bf 0 [a]) σ h (.int n) h2) := by
  intro X cc ex n' ρ H τ Q E hck S R P
  cases n' with
  | zero => exact nock hck
  | succ n' =>
  have hck : ckE T (ck T n') cc (.bf 0 [a]) ex = true := hck
  simp only [ckE] at hck
  split at hck
  · simp only [Bool.and_eq_true, decide_eq_true_eq] at hck
    obtain ⟨⟨⟨hg, hn⟩, ha⟩, _⟩ := hck
    cases hn
    obtain ⟨hs, hba, _⟩ := args_ok ha
    obtain ⟨g1, g2⟩ := gl_ok E hg
    obtain ⟨e, rfl, ca⟩ := allB2_one hba
    obtain ⟨C, hC, hex, hms⟩ := meth_inv hm
    obtain ⟨F, hF, hf1, hf2, hf3, _⟩ := E.fa.own c 4 f C hC hex hms
    obtain ⟨hlen, fd, FO, hB, hk⟩ := cl_sp E i2 hF
    have hst : noStar1 e = true := by
      have hs2 : (noStar1 e && true) = true := hs
      rw [Bool.and_true] at hs2
      exact hs2
    refine blt_gen (id := "len") g1 (E.fa.free _ (by decide)) rfl hs (by decide) g2 (wA.of (pa_cons wE.pe pa_nil (star1 hst _)) ?_)
    refine i1 X cc _ n' ρ H τ _ E ca S R fun ρ1 H1 u e1 S1 r1 => ?_
    obtain ⟨ad, C', dx, fu, rfl, z, hC', fr, q⟩ := insAt S1 r1 g
    rw [hC] at hC'
    cases hC'
    exact own_len FO E.room hB (hf3 rfl) hf1 q h0 hn1 ⟨hlen, ρ1, S1, .one ⟨ad, rfl, z⟩, fun ρ2 H2 w e2 S2 r2 => ⟨r2, P _ _ _ (e1.trans e2) S2 rfl⟩⟩
  · cases hck
theorem c_sub {i : ME} (i1 : Mot T (.e d a σ h x h1)) (i2 : Mot T (.e d i σ h1 y h2)) (hv : subV x y h2 = some v) : Mot T (.e d (.sub a i) σ h v h2) := by
  intro X c ex n ρ H τ Q E hck S R P
  cases n with
  | zero => exact nock hck
  | succ n =>
  have hck : ckE T (ck T n) c (.sub a i) ex = true := hck
  simp only [ckE] at hck
  split at hck
  · simp only [Bool.and_eq_true] at hck
    obtain ⟨⟨⟨hs, _⟩, ca⟩, ci⟩ := hck
    refine wE.of (pe_ix ix_any wE.pe wE.pe (slice_ok2 hs)) ?_
    exact i1 X c _ n ρ H τ _ E ca S R fun ρ1 H1 xu e1 S1 r1 => i2 X c _ n ρ1 H1 τ _ E ci S1 (R.ext e1) fun ρ2 H2 yu e2 S2 r2 => sub_ok S2 hv (r1.ext e2) r2 (P.ext (e1.trans e2))
  · cases hck
theorem c_subD {i : ME} {m : Nat} {kvs : List (Key × PV)} {k : Key} (i1 : Mot T (.e d a σ h (.ref m) h1)) (i2 : Mot T (.e d i σ h1 y h2)) (g : h2.get m = some (.dict kvs)) (hk : keyOf y = some k) (hv : lookK k kvs = some v) : Mot T (.e d (.sub a i) σ h v h2) := by
  intro X c ex n ρ H τ Q E hck S R P
  cases n with
  | zero => exact nock hck
  | succ n =>
  have hck : ckE T (ck T n) c (.sub a i) ex = true := hck
  simp only [ckE] at hck
  split at hck
  · simp only [Bool.and_eq_true] at hck
    obtain ⟨⟨⟨hs, _⟩, ca⟩, ci⟩ := hck
    have hu := E.hu
    refine wE.of (pe_dget (by omega) wE.pe wE.pe (slice_ok hs)) ?_
    refine i1 X c _ n ρ H τ _ E ca S R fun ρ1 H1 xu e1 S1 r1 => i2 X c _ n ρ1 H1 τ _ E ci S1 (R.ext e1) fun ρ2 H2 yu e2 S2 r2 => ?_
    obtain ⟨ad, ku, rfl, z, rs, q⟩ := dictAt S2 (r1.ext e2) g
    rcases lookK_ok (k := k) rs with ⟨l1, _⟩ | ⟨w, u, l1, l2, rv⟩
    · rw [hv] at l1; cases l1
    · rw [hv] at l1
      cases l1
      exact ⟨ad, u, rfl, .inl ⟨ku, k, .inl q, keyOf_ok hk r2, l2.symm⟩, P _ _ _ (e1.trans e2) S2 rv⟩
  · cases hck
theorem c_subO {i : ME} {m c f : Nat} {fs : List (Nat × PV)} (i1 : Mot T (.e (d + 1) a σ h (.ref m) h1)) (i2 : Mot T (.e (d + 1) i σ h1 y h2)) (g : h2.get m = some (.ins c fs)) (hm : methF T c 5 = some f) (i3 : Mot T (.cl d f [.ref m, y] h2 (.ok v h3))) :
    Mot T (.e (d + 1) (.sub a i) σ h v h3) := by
  intro X cc ex n ρ H τ Q E hck S R P
  cases n with
  | zero => exact nock hck
  | succ n =>
  have hck : ckE T (ck T n) cc (.sub a i) ex = true := hck
  simp only [ckE] at hck
  split at hck
  · simp only [Bool.and_eq_true] at hck
    obtain ⟨⟨⟨hs, _⟩, ca⟩, ci⟩ := hck
    obtain ⟨C, hC, hex, hms⟩ := meth_inv hm
    obtain ⟨F, hF, hf1, hf2, _, hf3⟩ := E.fa.own c 5 f C hC hex hms
    obtain ⟨hlen, fd, FO, hB, hk⟩ := cl_sp E i3 hF
    refine sub_gen (i1 X cc _ n ρ H τ _ E ca S R fun ρ1 H1 xu e1 S1 r1 => i2 X cc _ n ρ1 H1 τ _ E ci S1 (R.ext e1) fun ρ2 H2 yu e2 S2 r2 => ?_)
    obtain ⟨ad, C', dx, fu, rfl, z, hC', fr, q⟩ := insAt S2 (r1.ext e2) g
    rw [hC] at hC'
    cases hC'
    exact own_item FO E.room hB (hf3 rfl) hf1 hf2 hs q ⟨hlen, ρ2, S2, .cons ⟨ad, rfl, z⟩ (.one r2), P.ext (e1.trans e2)⟩
  · cases hck
theorem c_revL {m : Nat} {xs : List PV} (i1 : Mot T (.e d a σ h (.ref m) h1)) (g : h1.get m = some (.lst xs)) : Mot T (.e d (.rev a) σ h (.ref h1.nx) (h1.new (.lst xs.reverse))) := by
  intro X c ex n ρ H τ Q E hck S R P
  cases n with
  | zero => exact nock hck
  | succ n =>
  have hck : ckE T (ck T n) c (.rev a) ex = true := hck
  simp only [ckE] at hck
  split at hck
  · refine wE.of (pe_revL wE.pe) ?_
    refine i1 X c _ n ρ H τ _ E hck S R fun ρ1 H1 xu e1 S1 r1 => ?_
    obtain ⟨ad, us, rfl, z, rs, q⟩ := listAt S1 r1 g
    exact ⟨ad, us, rfl, SqL.of q, post_newL S1 rs.rev (P.ext e1)⟩
  · cases hck
theorem c_tup (hl : vs.length = as.length) (i1 : Mot T (.es d as σ h vs h1)) : Mot T (.e d (.tup as) σ h (.tup vs) h1) := by
  intro X c ex n ρ H τ Q E hck S R P
  cases n with
  | zero => exact nock hck
  | succ n =>
  have hck : ckE T (ck T n) c (.tup as) ex = true := hck
  simp only [ckE] at hck
  split at hck
  · obtain ⟨hs, hb, h20⟩ := args_ok hck
    refine wE.of (pe_tup wA.pa) ?_
    refine i1 X c _ n ρ H τ _ E hb hs S R fun ρ1 H1 us e1 S1 r1 => ⟨?_, post_newT S1 r1 (P.ext e1)⟩
    have l1 := r1.len
    have l2 := allB2_len hb
    have l3 := blt20 h20
    rw [sizeLine_eq]
    omega
  · cases hck
theorem c_lst (hl : vs.length = as.length) (i1 : Mot T (.es d as σ h vs h1)) : Mot T (.e d (.lst as) σ h (.ref h1.nx) (h1.new (.lst vs))) := by
  intro X c ex n ρ H τ Q E hck S R P
  cases n with
  | zero => exact nock hck
  | succ n =>
  have hck : ckE T (ck T n) c (.lst as) ex = true := hck
  simp only [ckE] at hck
  split at hck
  · obtain ⟨hs, hb, h20⟩ := args_ok hck
    refine wE.of (pe_lst wA.pa) ?_
    refine i1 X c _ n ρ H τ _ E hb hs S R fun ρ1 H1 us e1 S1 r1 => ⟨?_, post_newL S1 r1 (P.ext e1)⟩
    have l1 := r1.len
    have l2 := allB2_len hb
    have l3 := blt20 h20
    rw [sizeLine_eq]
    omega
  · cases hck
theorem rngM_ok {K : PySem.W.Frag} {ρ : List Addr} {H : Hp} (i j : Int) : RVs K ρ H (rngM i j) (rgV i j) := by
  have key : ∀ l : List Nat, RVs K ρ H (l.map fun n => PV.int (i + (n : Nat))) (l.map fun n => V.int (i + (n : Nat))) := by
    intro l
    induction l with
    | nil => exact rfl
    | cons n r ih => exact .cons rfl ih
  exact key _
theorem c_lrg {j : Int} (i1 : Mot T (.e d a σ h (.int j) h1)) (l1 : 0 ≤ j) (l2 : j ≤ 1000000) : Mot T (.e d (.lrg a) σ h (.ref h1.nx) (h1.new (.lst (rngM 0 j)))) := by
  intro X c ex n ρ H τ Q E hck S R P
  cases n with
  | zero => exact nock hck
  | succ n =>
  have hck : ckE T (ck T n) c (.lrg a) ex = true := hck
  simp only [ckE] at hck
  split at hck
  · simp only [Bool.and_eq_true, decide_eq_true_eq] at hck
    obtain ⟨⟨⟨⟨⟨hg, hg2⟩, ex1⟩, ex2⟩, hst⟩, ca⟩ := hck
    subst ex1 ex2
    obtain ⟨g1, _⟩ := gl_ok E hg
    obtain ⟨g3, _⟩ := gl_ok E hg2
    refine wE.of (pe_listRg E.calm g1 (E.fa.free _ (by decide)) (prg_1 g3 (E.fa.free _ (by decide)) wE.pe (star1 hst _)) (star1 rfl _)) ?_
    exact i1 X c _ n ρ H τ _ E ca S R fun ρ1 H1 u e1 S1 r1 => ⟨j, r1, .of_le (by omega) (by omega) (by omega) (by omega), post_newL S1 (rngM_ok 0 j) (P.ext e1)⟩
  · cases hck
theorem c_lrg2 {i j : Int} (i1 : Mot T (.e d a σ h (.int i) h1)) (i2 : Mot T (.e d b σ h1 (.int j) h2)) (k1 : 0 ≤ i) (k2 : i ≤ 1000000) (l1 : 0 ≤ j) (l2 : j ≤ 1000000) : Mot T (.e d (.lrg2 a b) σ h (.ref h2.nx) (h2.new (.lst (rngM i j)))) := by
  intro X c ex n ρ H τ Q E hck S R P
  cases n with
  | zero => exact nock hck
  | succ n =>
  have hck : ckE T (ck T n) c (.lrg2 a b) ex = true := hck
  simp only [ckE] at hck
  split at hck
  · simp only [Bool.and_eq_true, decide_eq_true_eq] at hck
    obtain ⟨⟨⟨⟨⟨⟨⟨hg, hg2⟩, ex1⟩, ex2⟩, hst⟩, hst2⟩, ca⟩, cb⟩ := hck
    subst ex1 ex2
    obtain ⟨g1, _⟩ := gl_ok E hg
    obtain ⟨g3, _⟩ := gl_ok E hg2
    refine wE.of (pe_listRg E.calm g1 (E.fa.free _ (by decide)) (prg_2 g3 (E.fa.free _ (by decide)) wE.pe wE.pe (star1 hst _) (star1 hst2 _) (by rw [star1 hst2]; rfl)) (star1 rfl _)) ?_
    exact i1 X c _ n ρ H τ _ E ca S R fun ρ1 H1 u e1 S1 r1 => i2 X c _ n ρ1 H1 τ _ E cb S1 (R.ext e1) fun ρ2 H2 w e2 S2 r2 => ⟨i, j, by cases r1; rfl, by cases r2; rfl, .of_le (by omega) (by omega) (by omega) (by omega), post_newL S2 (rngM_ok i j) (P.ext (e1.trans e2))⟩
  · cases hck
end
end Mp
namespace Mp
open PySem PySem.Spec L2
section
variable {T : Tab} {d : Nat} {σ σ1 σ2 : Ev} {h h1 h2 h3 h' : MH} {a b : ME} {v x y : PV} {as : List ME} {vs : List PV}
theorem c_ifT {c : ME} (i1 : Mot T (.t d c σ h true h1)) (i2 : Mot T (.e d a σ h1 v h2)) : Mot T (.e d (.ife c a b) σ h v h2) := by
  intro X cc ex n ρ H τ Q E hck S R P
  cases n with
  | zero => exact nock hck
  | succ n =>
  have hck : ckE T (ck T n) cc (.ife c a b) ex = true := hck
  simp only [ckE] at hck
  split at hck
  · simp only [Bool.and_eq_true] at hck
    obtain ⟨⟨c1, c2⟩, c3⟩ := hck
    refine wE.of (pe_ifExp wT.pt wE.pe wE.pe) ?_
    refine (i1 X cc _ n ρ H τ _ E c1 S R fun ρ1 H1 e1 S1 => ?_).1
    exact i2 X cc _ n ρ1 H1 τ _ E c2 S1 (R.ext e1) (P.ext e1)
  · cases hck
theorem c_ifF {c : ME} (i1 : Mot T (.t d c σ h false h1)) (i2 : Mot T (.e d b σ h1 v h2)) : Mot T (.e d (.ife c a b) σ h v h2) := by
  intro X cc ex n ρ H τ Q E hck S R P
  cases n with
  | zero => exact nock hck
  | succ n =>
  have hck : ckE T (ck T n) cc (.ife c a b) ex = true := hck
  simp only [ckE] at hck
  split at hck
  · simp only [Bool.and_eq_true] at hck
    obtain ⟨⟨c1, c2⟩, c3⟩ := hck
    refine wE.of (pe_ifExp wT.pt wE.pe wE.pe) ?_
    refine (i1 X cc _ n ρ H τ _ E c1 S R fun ρ1 H1 e1 S1 => ?_).1
    exact i2 X cc _ n ρ1 H1 τ _ E c3 S1 (R.ext e1) (P.ext e1)
  · cases hck
/-- blocks -/
theorem EC.blk {X : Cx} {c : CC} (E : EC T c d X) (scope : Scope) : ∀ (s : Shared) (H0 : Hp) (C : Addr) (cl : List (Str × Addr)) (fp : List Addr), EC T (c.blk scope) d (X.blk s H0 scope (compEnvC scope cl C X.env) fp) := fun s H0 C cl fp =>
  ⟨E.calm, E.nd, E.hN, by show relS scope X.env.scope = relS scope c.sc; rw [E.sc], E.room, E.fa, fun x hx => hx⟩
theorem blk_ok {X : Cx} {c : CC} (E : EC T c d X) {own : List Nat} {scope : Scope} (h : blkB c own scope = true) : BlkOk X.N X.env.scope scope (own.map fun i => (c.N.getD i Str.empty, i)) := by
  rw [E.hN, E.sc]
  exact blkOk_by h
theorem own_snd {N : List Str} (own : List Nat) : (own.map fun i => (N.getD i Str.empty, i)).map (·.2) = own := by
  rw [List.map_map]
  exact List.map_id _
theorem new_at {K : PySem.W.Frag} {ρ : List Addr} {H : Hp} (S : Sim T K ρ H h) {p : Addr} : (ρ ++ [p])[h.nx]? = some p := by rw [← S.len]; exact getLast_app
theorem c_lcomp {own : List Nat} {elt : ME} {t : MT} {it : MI} {ifs : List ME} {r : IT} (i1 : Mot T (.i d it σ h r h1)) (i2 : Mot T (.cp d elt own t ifs r 0 h1.nx σ (h1.new (.lst [])) h2)) : Mot T (.e d (.lcomp own elt t it ifs) σ h (.ref h1.nx) h2) := by
  obtain ⟨m, i2⟩ := i2
  intro X c ex n ρ H τ Q E hck S R P
  cases n with
  | zero => exact nock hck
  | succ n =>
  have hck : ckE T (ck T n) c (.lcomp own elt t it ifs) ex = true := hck
  simp only [ckE] at hck
  split at hck
  · rename_i ee te ie fe scope pos _
    simp only [Bool.and_eq_true] at hck
    obtain ⟨⟨⟨⟨⟨⟨⟨⟨hb, hsub⟩, htg⟩, ci⟩, hns⟩, ct⟩, ce⟩, cf⟩, _⟩ := hck
    refine wE.of (pe_lc (own := own.map fun i => (c.N.getD i Str.empty, i)) E.calm E.nd wI.pi (blk_ok E hb) (fun s H0 C cl fp => bG.pg X s H0 C cl fp) (fun s H0 C cl fp => bTs.pts X s H0 C cl fp) (fun s H0 C cl fp => bE.pe X s H0 C cl fp) (fold_ok hns _)) ?_
    rw [own_snd]
    refine i1 X c te _ n ρ H τ _ E ci htg S R fun ρ1 H1 J e1 S1 w1 D hD => ?_
    have eL := Ext.laid (o := .lst []) S1 hD
    have SL : Sim T X.K (ρ1 ++ [D]) (upd H1 D (.lst [])) (h1.new (.lst [])) := S1.laid hD ⟨[], rfl, upd_same⟩
    refine LcW.run X (Q := Q (.ref D)) (m := m) ?_
    refine i2 X scope (c.blk scope) te fe ee n _ _ τ D J _ (E.blk scope) ct cf ce hsub SL (R.ext (e1.trans eL)) (w1.ext eL) (new_at S1) fun ρ2 H2 e2 S2 => ?_
    exact P ρ2 H2 _ ((e1.trans eL).trans e2) S2 ⟨D, rfl, e2.pre _ _ (new_at S1)⟩
  · cases hck
theorem c_dcomp {own : List Nat} {kk vv : ME} {t : MT} {it : MI} {ifs : List ME} {r : IT} (i1 : Mot T (.i d it σ h r h1)) (i2 : Mot T (.dp d kk vv own t ifs r 0 h1.nx σ (h1.new (.dict [])) h2)) : Mot T (.e d (.dcomp own kk vv t it ifs) σ h (.ref h1.nx) h2) := by
  obtain ⟨m, i2⟩ := i2
  intro X c ex n ρ H τ Q E hck S R P
  cases n with
  | zero => exact nock hck
  | succ n =>
  have hck : ckE T (ck T n) c (.dcomp own kk vv t it ifs) ex = true := hck
  simp only [ckE] at hck
  split at hck
  · rename_i ke ve te ie fe scope pos _
    simp only [Bool.and_eq_true] at hck
    obtain ⟨⟨⟨⟨⟨⟨⟨⟨⟨hb, hsub⟩, htg⟩, ci⟩, hns⟩, ct⟩, ck1⟩, cv⟩, cf⟩, _⟩ := hck
    refine wE.of (pe_dc (own := own.map fun i => (c.N.getD i Str.empty, i)) E.calm E.nd wI.pi (blk_ok E hb) (fun s H0 C cl fp => bG.pg X s H0 C cl fp) (fun s H0 C cl fp => bTs.pts X s H0 C cl fp) (fun s H0 C cl fp => bE.pe X s H0 C cl fp) (fun s H0 C cl fp => bE.pe X s H0 C cl fp) (fold_ok hns _)) ?_
    rw [own_snd]
    refine i1 X c te _ n ρ H τ _ E ci htg S R fun ρ1 H1 J e1 S1 w1 D hD => ?_
    have eL := Ext.laid (o := .dK []) S1 hD
    have SL : Sim T X.K (ρ1 ++ [D]) (upd H1 D (.dK [])) (h1.new (.dict [])) := S1.laid hD ⟨[], .nil, upd_same⟩
    refine DcW.run X (Q := Q (.ref D)) (m := m) ?_
    refine i2 X scope (c.blk scope) te fe ke ve n _ _ τ D J _ (E.blk scope) ct cf ck1 cv hsub SL (R.ext (e1.trans eL)) (w1.ext eL) (new_at S1) fun ρ2 H2 e2 S2 => ?_
    exact P ρ2 H2 _ ((e1.trans eL).trans e2) S2 ⟨D, rfl, e2.pre _ _ (new_at S1)⟩
  · cases hck
theorem LcW.inner {X : Cx} {scope : Scope} {te : Expr} {ifs : List Expr} {ee : Expr} {vs : List Nat} {J : It} {D : Addr} {τ : St} {Q : Hp → Prop} {m : Nat} {H : Hp} (h : ∃ m, LcW X scope te ifs ee vs J D τ Q m 0 H) :
    ∃ W1 : Nat → Nat → Hp → Prop, (∃ m, W1 0 m H) ∧ ∀ j k H, W1 j k H →
      (J.stop j H ∧ Q H) ∨ (J.go j H ∧ ∃ Nx1 : Hp → Prop, (∀ H', Nx1 H' → ∃ k', k' < k ∧ W1 (j + 1) k' H') ∧ ∀ x H', J.yld j H x H' → bG X scope te x (L2.wipe τ vs) H' fun σ3 H5 => L2.wipe σ3 vs = L2.wipe τ vs ∧ bTs X scope ifs σ3 H5 fun b H6 =>
        if b = true then bE X scope ee σ3 H6 fun y H7 => ∃ acc, H7 D = some (.lst acc) ∧ acc.length < sizeLine ∧ Nx1 (upd H7 D (.lst (acc ++ [y]))) else Nx1 H6) := by
  obtain ⟨m, h⟩ := h
  exact LcW.run X h
theorem bG.mono {X : Cx} {scope : Scope} {t : Expr} {v : V} {τ : St} {H : Hp} {Q Q' : St → Hp → Prop} (m : ∀ σ H, Q σ H → Q' σ H) (h : bG X scope t v τ H Q) : bG X scope t v τ H Q' := fun s H0 C cl fp pins s1 u I r =>
  thn (h s H0 C cl fp pins s1 u I r) fun _ _ ⟨σ', H', I', q⟩ => ⟨σ', H', I', m _ _ q⟩
theorem bTs.mono {X : Cx} {scope : Scope} {t : List Expr} {τ : St} {H : Hp} {Q Q' : Bool → Hp → Prop} (m : ∀ b H, Q b H → Q' b H) (h : bTs X scope t τ H Q) : bTs X scope t τ H Q' := fun s H0 C cl fp pins s1 I =>
  thn (h s H0 C cl fp pins s1 I) fun _ _ ⟨H', I', q⟩ => ⟨H', I', m _ _ q⟩
theorem bI.mono {X : Cx} {scope : Scope} {tg e : Expr} {τ : St} {H : Hp} {R R' : It → Hp → Prop} (m : ∀ b H, R b H → R' b H) (h : bI X scope tg e τ H R) : bI X scope tg e τ H R' := fun s H0 C cl fp pins s1 I =>
  thn (h s H0 C cl fp pins s1 I) fun _ _ hq => thn hq fun _ _ ⟨it, fp2, tn, J, H', e, I', T, st, f, q⟩ => ⟨it, fp2, tn, J, H', e, I', T, st, f, m _ _ q⟩
theorem LqW.run {X : Cx} {scope : Scope} {te : Expr} {ifs : List Expr} {te1 ie1 : Expr} {ifs1 : List Expr} {ee : Expr} {vs vs1 : List Nat} {J : It} {D : Addr} {τ : St} {Q : Hp → Prop} {m : Nat} {H : Hp} (h : LqW X scope te ifs te1 ie1 ifs1 ee vs vs1 J D τ Q m 0 H) :
    ∃ W : Nat → Nat → Hp → Prop, (∃ m, W 0 m H) ∧ ∀ i m H, W i m H →
  (J.stop i H ∧ Q H) ∨ (J.go i H ∧ ∃ Nx : Hp → Prop, (∀ H', Nx H' → ∃ m', m' < m ∧ W (i + 1) m' H') ∧ ∀ x H', J.yld i H x H' → bG X scope te x (L2.wipe τ vs) H' fun σ2 H2 => L2.wipe σ2 vs = L2.wipe τ vs ∧ bTs X scope ifs σ2 H2 fun b H3 =>
    if b = true then bI X scope te1 ie1 σ2 H3 fun J1 H4 => ∃ W1 : Nat → Nat → Hp → Prop, (∃ m, W1 0 m H4) ∧ ∀ j k H, W1 j k H →
      (J1.stop j H ∧ Nx H) ∨ (J1.go j H ∧ ∃ Nx1 : Hp → Prop, (∀ H', Nx1 H' → ∃ k', k' < k ∧ W1 (j + 1) k' H') ∧ ∀ x H', J1.yld j H x H' → bG X scope te1 x (L2.wipe σ2 vs1) H' fun σ3 H5 => L2.wipe σ3 vs1 = L2.wipe σ2 vs1 ∧ bTs X scope ifs1 σ3 H5 fun b H6 =>
        if b = true then bE X scope ee σ3 H6 fun y H7 => ∃ acc, H7 D = some (.lst acc) ∧ acc.length < sizeLine ∧ Nx1 (upd H7 D (.lst (acc ++ [y]))) else Nx1 H6)
    else Nx H3) := by
  have step : ∀ {i : Nat} {H : Hp} {Nx : Hp → Prop}, LqN X scope te ifs te1 ie1 ifs1 ee vs vs1 J D τ i H Nx → J.go i H ∧ ∀ x H', J.yld i H x H' → bG X scope te x (L2.wipe τ vs) H' fun σ2 H2 => L2.wipe σ2 vs = L2.wipe τ vs ∧ bTs X scope ifs σ2 H2 fun b H3 =>
    if b = true then bI X scope te1 ie1 σ2 H3 fun J1 H4 => ∃ W1 : Nat → Nat → Hp → Prop, (∃ m, W1 0 m H4) ∧ ∀ j k H, W1 j k H →
      (J1.stop j H ∧ Nx H) ∨ (J1.go j H ∧ ∃ Nx1 : Hp → Prop, (∀ H', Nx1 H' → ∃ k', k' < k ∧ W1 (j + 1) k' H') ∧ ∀ x H', J1.yld j H x H' → bG X scope te1 x (L2.wipe σ2 vs1) H' fun σ3 H5 => L2.wipe σ3 vs1 = L2.wipe σ2 vs1 ∧ bTs X scope ifs1 σ3 H5 fun b H6 =>
        if b = true then bE X scope ee σ3 H6 fun y H7 => ∃ acc, H7 D = some (.lst acc) ∧ acc.length < sizeLine ∧ Nx1 (upd H7 D (.lst (acc ++ [y]))) else Nx1 H6)
    else Nx H3 := fun {i H Nx} w => ⟨w.1, fun x H' y => bG.mono (fun σ2 H2 z => ⟨z.1, bTs.mono (fun b H3 q => by
      cases b with
      | true => exact bI.mono (fun J1 H4 l => LcW.inner (m := 0) l) q
      | false => exact q) z.2⟩) (w.2 x H' y)⟩
  refine ⟨fun i m H => LqW X scope te ifs te1 ie1 ifs1 ee vs vs1 J D τ Q m i H, ⟨m, h⟩, fun i m H w => ?_⟩
  cases m with
  | zero =>
    rcases w with w | w
    · exact .inl w
    · exact .inr ⟨(step w).1, fun _ => False, fun _ z => z.elim, (step w).2⟩
  | succ m =>
    rcases w with w | w
    · exact .inl w
    · exact .inr ⟨(step w).1, LqW X scope te ifs te1 ie1 ifs1 ee vs vs1 J D τ Q m (i + 1), fun H' z => ⟨m, Nat.lt_succ_self m, z⟩, (step w).2⟩
theorem subB_mem {a b : List Nat} (h : subB a b = true) : ∀ i ∈ a, i ∈ b := fun i hi => by
  unfold subB at h
  have := List.all_eq_true.mp h i hi
  simpa using this
theorem c_lcomp2 {own vs1 : List Nat} {elt : ME} {t t1 : MT} {it it1 : MI} {ifs ifs1 : List ME} {r : IT} (i1 : Mot T (.i d it σ h r h1)) (i2 : Mot T (.cq d elt own vs1 t ifs t1 it1 ifs1 r 0 h1.nx σ (h1.new (.lst [])) h2)) :
    Mot T (.e d (.lcomp2 own vs1 elt t it ifs t1 it1 ifs1) σ h (.ref h1.nx) h2) := by
  obtain ⟨m, i2⟩ := i2
  intro X c ex n ρ H τ Q E hck S R P
  cases n with
  | zero => exact nock hck
  | succ n =>
  have hck : ckE T (ck T n) c (.lcomp2 own vs1 elt t it ifs t1 it1 ifs1) ex = true := hck
  simp only [ckE] at hck
  split at hck
  · rename_i ee te ie fe te1 ie1 fe1 scope pos _
    simp only [Bool.and_eq_true] at hck
    obtain ⟨⟨⟨⟨⟨⟨⟨⟨⟨⟨⟨⟨⟨⟨⟨⟨hb, hsv⟩, hsub⟩, hsub1⟩, htg⟩, htg1⟩, ci⟩, hns⟩, ct⟩, cf⟩, _⟩, ci1⟩, hns1⟩, ct1⟩, ce⟩, cf1⟩, _⟩ := hck
    refine wE.of (pe_lc2 (own := own.map fun i => (c.N.getD i Str.empty, i)) (vs1 := vs1) E.calm E.nd wI.pi (blk_ok E hb) (by rw [own_snd]; exact subB_mem hsv) (fun s H0 C cl fp => bG.pg X s H0 C cl fp) (fun s H0 C cl fp => bTs.pts X s H0 C cl fp)
      (fun s H0 C cl fp => bI.pi X s H0 C cl fp) (fun s H0 C cl fp => bG.pg X s H0 C cl fp) (fun s H0 C cl fp => bTs.pts X s H0 C cl fp) (fun s H0 C cl fp => bE.pe X s H0 C cl fp) (fold_ok hns _) (fold_ok hns1)) ?_
    rw [own_snd]
    refine i1 X c te _ n ρ H τ _ E ci htg S R fun ρ1 H1 J e1 S1 w1 D hD => ?_
    have eL := Ext.laid (o := .lst []) S1 hD
    have SL : Sim T X.K (ρ1 ++ [D]) (upd H1 D (.lst [])) (h1.new (.lst [])) := S1.laid hD ⟨[], rfl, upd_same⟩
    refine LqW.run (Q := Q (.ref D)) (m := m) ?_
    refine i2 X scope (c.blk scope) te fe te1 ie1 fe1 ee n _ _ τ D J _ (E.blk scope) ct cf ct1 ci1 htg1 cf1 ce hsub hsub1 SL (R.ext (e1.trans eL)) (w1.ext eL) (new_at S1) fun ρ2 H2 e2 S2 => ?_
    exact P ρ2 H2 _ ((e1.trans eL).trans e2) S2 ⟨D, rfl, e2.pre _ _ (new_at S1)⟩
  · cases hck
/-! ### lists of expressions -/
theorem c_esN : Mot T (.es d [] σ h [] h) := by
  intro X c exs n ρ H τ Q E hck hs S R P
  rw [allB2_nil hck]
  exact wA.of pa_nil (P ρ H [] (Ext.refl _ _) S rfl)
theorem c_esC (i1 : Mot T (.e d a σ h v h1)) (i2 : Mot T (.es d as σ h1 vs h2)) : Mot T (.es d (a :: as) σ h (v :: vs) h2) := by
  intro X c exs n ρ H τ Q E hck hs S R P
  obtain ⟨e, r, rfl, c1, c2⟩ := allB2_cons hck
  rw [List.all_cons, Bool.and_eq_true] at hs
  refine wA.of (pa_cons wE.pe wA.pa (star1 hs.1 _)) ?_
  exact i1 X c e n ρ H τ _ E c1 S R fun ρ1 H1 u e1 S1 r1 => i2 X c r n ρ1 H1 τ _ E c2 hs.2 S1 (R.ext e1) fun ρ2 H2 us e2 S2 r2 => P ρ2 H2 _ (e1.trans e2) S2 (.cons (r1.ext e2) r2)
/-! ### tests -/
theorem both {X : Cx} {ex : Expr} {τ : St} {H : Hp} {Q : Bool → Hp → Prop} (hw : wW X ex τ H Q) : wT X ex τ H Q ∧ ((∃ op xs pos, ex = .BoolOp op xs pos) → wW X ex τ H Q) := ⟨fun pins s I => hw _ pins s I, fun _ => hw⟩
theorem c_tN {b : Bool} (i1 : Mot T (.t d a σ h b h1)) : Mot T (.t d (.not a) σ h (!b) h1) := by
  intro X c ex n ρ H τ Q E hck S R P
  cases n with
  | zero => exact nock hck
  | succ n =>
  have hck : ckE T (ck T n) c (.not a) ex = true := hck
  simp only [ckE] at hck
  split at hck
  · exact ⟨wT.of (pt_not wT.pt) (i1 X c _ n ρ H τ _ E hck S R fun ρ1 H1 e1 S1 => P ρ1 H1 e1 S1).1, fun ⟨_, _, _, e⟩ => by cases e⟩
  · cases hck
theorem c_tAndT {b' : Bool} (i1 : Mot T (.t d a σ h true h1)) (i2 : Mot T (.t d b σ h1 b' h2)) : Mot T (.t d (.andE a b) σ h b' h2) := by
  intro X c ex n ρ H τ Q E hck S R P
  cases n with
  | zero => exact nock hck
  | succ n =>
  have hck : ckE T (ck T n) c (.andE a b) ex = true := hck
  simp only [ckE] at hck
  split at hck
  · rename_i ea eb rest pos _
    rw [Bool.and_eq_true] at hck
    obtain ⟨ca, cb⟩ := hck
    refine both ?_
    have key : ∀ {tb : TT}, PW X (.BoolOp .And (eb :: rest) pos) tb → (∀ ρ1 H1, Ext ρ ρ1 H H1 → Sim T X.K ρ1 H1 h1 → tb τ H1 Q) → wW X (.BoolOp .And (ea :: eb :: rest) pos) τ H Q := fun hp hq =>
      wW.of (pw_and wT.pt hp) (i1 X c _ n ρ H τ _ E ca S R fun ρ1 H1 e1 S1 => hq ρ1 H1 e1 S1).1
    cases rest with
    | nil => exact key (pw_and1 wT.pt) fun ρ1 H1 e1 S1 => (i2 X c _ n ρ1 H1 τ _ E cb S1 (R.ext e1) (PostT.ext e1 P)).1
    | cons _ _ => exact key wW.pw fun ρ1 H1 e1 S1 => (i2 X c _ n ρ1 H1 τ _ E cb S1 (R.ext e1) (PostT.ext e1 P)).2 ⟨_, _, _, rfl⟩
  · cases hck
theorem c_tAndF (i1 : Mot T (.t d a σ h false h1)) : Mot T (.t d (.andE a b) σ h false h1) := by
  intro X c ex n ρ H τ Q E hck S R P
  cases n with
  | zero => exact nock hck
  | succ n =>
  have hck : ckE T (ck T n) c (.andE a b) ex = true := hck
  simp only [ckE] at hck
  split at hck
  · rw [Bool.and_eq_true] at hck
    refine both (wW.of (pw_and wT.pt wW.pw) ?_)
    exact (i1 X c _ n ρ H τ (fun c H1 => if c = true then wW X _ τ H1 Q else Q false H1) E hck.1 S R fun ρ1 H1 e1 S1 => P ρ1 H1 e1 S1).1
  · cases hck
theorem c_tOrF {b' : Bool} (i1 : Mot T (.t d a σ h false h1)) (i2 : Mot T (.t d b σ h1 b' h2)) : Mot T (.t d (.orE a b) σ h b' h2) := by
  intro X c ex n ρ H τ Q E hck S R P
  cases n with
  | zero => exact nock hck
  | succ n =>
  have hck : ckE T (ck T n) c (.orE a b) ex = true := hck
  simp only [ckE] at hck
  split at hck
  · rename_i ea eb rest pos _
    rw [Bool.and_eq_true] at hck
    obtain ⟨ca, cb⟩ := hck
    refine both ?_
    have key : ∀ {tb : TT}, PW X (.BoolOp .Or (eb :: rest) pos) tb → (∀ ρ1 H1, Ext ρ ρ1 H H1 → Sim T X.K ρ1 H1 h1 → tb τ H1 Q) → wW X (.BoolOp .Or (ea :: eb :: rest) pos) τ H Q := fun hp hq =>
      wW.of (pw_or wT.pt hp) (i1 X c _ n ρ H τ _ E ca S R fun ρ1 H1 e1 S1 => hq ρ1 H1 e1 S1).1
    cases rest with
    | nil => exact key (pw_or1 wT.pt) fun ρ1 H1 e1 S1 => (i2 X c _ n ρ1 H1 τ _ E cb S1 (R.ext e1) (PostT.ext e1 P)).1
    | cons _ _ => exact key wW.pw fun ρ1 H1 e1 S1 => (i2 X c _ n ρ1 H1 τ _ E cb S1 (R.ext e1) (PostT.ext e1 P)).2 ⟨_, _, _, rfl⟩
  · cases hck
theorem c_tOrT (i1 : Mot T (.t d a σ h true h1)) : Mot T (.t d (.orE a b) σ h true h1) := by
  intro X c ex n ρ H τ Q E hck S R P
  cases n with
  | zero => exact nock hck
  | succ n =>
  have hck : ckE T (ck T n) c (.orE a b) ex = true := hck
  simp only [ckE] at hck
  split at hck
  · rw [Bool.and_eq_true] at hck
    refine both (wW.of (pw_or wT.pt wW.pw) ?_)
    exact (i1 X c _ n ρ H τ (fun c H1 => if c = true then Q true H1 else wW X _ τ H1 Q) E hck.1 S R fun ρ1 H1 e1 S1 => P ρ1 H1 e1 S1).1
  · cases hck
theorem c_tCmp {op : Nat} {r : Bool} (i1 : Mot T (.e d a σ h x h1)) (i2 : Mot T (.e d b σ h1 y h2)) (hb : cmpV op x y h2 = some r) : Mot T (.t d (.cmp op a b) σ h r h2) := by
  intro X c ex n ρ H τ Q E hck S R P
  cases n with
  | zero => exact nock hck
  | succ n =>
  have hck : ckE T (ck T n) c (.cmp op a b) ex = true := hck
  simp only [ckE] at hck
  split at hck
  · simp only [Bool.and_eq_true, decide_eq_true_eq, Bool.not_eq_true'] at hck
    obtain ⟨⟨⟨⟨ho, hm⟩, ca⟩, cb⟩, _⟩ := hck
    refine ⟨wT.of (pt_cmpR wOp.op wE.pe wE.pe hm) ?_, fun ⟨_, _, _, e⟩ => by cases e⟩
    exact i1 X c _ n ρ H τ _ E ca S R fun ρ1 H1 xu e1 S1 r1 => i2 X c _ n ρ1 H1 τ _ E cb S1 (R.ext e1) fun ρ2 H2 yu e2 S2 r2 =>
      cmp_ok E S2 ho hb (r1.ext e2) r2 fun ρ3 H3 u e3 S3 r3 => ⟨r, r3, P _ _ ((e1.trans e2).trans e3) S3⟩
  · cases hck
theorem c_tDIn {m : Nat} {k : Key} {kvs : List (Key × PV)} (i1 : Mot T (.e d a σ h x h1)) (i2 : Mot T (.e d b σ h1 (.ref m) h2)) (g : h2.get m = some (.dict kvs)) (hk : keyOf x = some k) : Mot T (.t d (.cmp 6 a b) σ h (lookK k kvs).isSome h2) := by
  intro X c ex n ρ H τ Q E hck S R P
  cases n with
  | zero => exact nock hck
  | succ n =>
  have hck : ckE T (ck T n) c (.cmp 6 a b) ex = true := hck
  simp only [ckE] at hck
  split at hck
  · simp only [Bool.and_eq_true, decide_eq_true_eq, Bool.not_eq_true'] at hck
    obtain ⟨⟨⟨⟨ho, hm⟩, ca⟩, cb⟩, _⟩ := hck
    cases ho
    have hu := E.hu
    refine ⟨wT.of (pt_cmp (pc_din (by omega) wE.pe wE.pe) hm) ?_, fun ⟨_, _, _, e⟩ => by cases e⟩
    refine i1 X c _ n ρ H τ _ E ca S R fun ρ1 H1 xu e1 S1 r1 => i2 X c _ n ρ1 H1 τ _ E cb S1 (R.ext e1) fun ρ2 H2 yu e2 S2 r2 => ?_
    obtain ⟨ad, ku, rfl, q, hs⟩ := dict_in (k := k) S2 g r2
    exact ⟨ad, valV ku k, rfl, .inl ⟨ku, k, .inl q, keyOf_ok hk r1, rfl⟩, _, by rw [← hs], P _ _ (e1.trans e2) S2⟩
  · cases hck
theorem c_tDNotIn {m : Nat} {k : Key} {kvs : List (Key × PV)} (i1 : Mot T (.e d a σ h x h1)) (i2 : Mot T (.e d b σ h1 (.ref m) h2)) (g : h2.get m = some (.dict kvs)) (hk : keyOf x = some k) : Mot T (.t d (.cmp 7 a b) σ h (!(lookK k kvs).isSome) h2) := by
  intro X c ex n ρ H τ Q E hck S R P
  cases n with
  | zero => exact nock hck
  | succ n =>
  have hck : ckE T (ck T n) c (.cmp 7 a b) ex = true := hck
  simp only [ckE] at hck
  split at hck
  · simp only [Bool.and_eq_true, decide_eq_true_eq, Bool.not_eq_true'] at hck
    obtain ⟨⟨⟨⟨ho, hm⟩, ca⟩, cb⟩, _⟩ := hck
    cases ho
    have hu := E.hu
    refine ⟨wT.of (pt_cmp (pc_dnotin (by omega) wE.pe wE.pe) hm) ?_, fun ⟨_, _, _, e⟩ => by cases e⟩
    refine i1 X c _ n ρ H τ _ E ca S R fun ρ1 H1 xu e1 S1 r1 => i2 X c _ n ρ1 H1 τ _ E cb S1 (R.ext e1) fun ρ2 H2 yu e2 S2 r2 => ?_
    obtain ⟨ad, ku, rfl, q, hs⟩ := dict_in (k := k) S2 g r2
    exact ⟨ad, valV ku k, rfl, .inl ⟨ku, k, .inl q, keyOf_ok hk r1, rfl⟩, _, by rw [← hs], P _ _ (e1.trans e2) S2⟩
  · cases hck
theorem plain_shape {n : Nat} {c : CC} {e : ME} {ex : Expr} (hp : plainT e = true) (hck : (ck T n).e c e ex = true) : shapeT ex = true := by
  cases n with
  | zero => exact nock hck
  | succ n =>
    have hck : ckE T (ck T n) c e ex = true := hck
    cases e <;> first
      | (cases hp; done)
      | (simp only [ckE] at hck
         split at hck
         · rfl
         · cases hck)
theorem c_tV {e : ME} {b : Bool} (hp : plainT e = true) (i1 : Mot T (.e d e σ h v h1)) (ht : truthV v h1 = some b) : Mot T (.t d e σ h b h1) := by
  intro X c ex n ρ H τ Q E hck S R P
  have hs := plain_shape hp hck
  refine ⟨wT.of (pt_truth wE.pe fun w => plain_is hs _ w) ?_, fun ⟨_, _, _, e⟩ => by subst e; cases hs⟩
  exact i1 X c ex n ρ H τ _ E hck S R fun ρ1 H1 u e1 S1 r1 => ⟨b, truth_ok S1 ht r1, P _ _ e1 S1⟩
theorem c_tsN : Mot T (.ts d [] σ h true h) := by
  intro X c exs n ρ H τ Q E hck S R P
  rw [allB2_nil hck]
  exact wTs.of pts_nil (P ρ H (Ext.refl _ _) S)
theorem c_ts1 {c : ME} {b : Bool} (i1 : Mot T (.t d c σ h b h1)) : Mot T (.ts d [c] σ h b h1) := by
  intro X cc exs n ρ H τ Q E hck S R P
  obtain ⟨e, rfl, c1⟩ := allB2_one hck
  exact wTs.of (pts_one wT.pt) (i1 X cc e n ρ H τ _ E c1 S R P).1
/-! ### walks -/
theorem noci {P : Prop} {c : CC} {m : MI} {ex : Expr} (h : (ck T 0).i c m ex = true) : P := nomatch (show false = true from h)
theorem noct {P : Prop} {c : CC} {m : MT} {ex : Expr} (h : (ck T 0).t c m ex = true) : P := nomatch (show false = true from h)
theorem c_iL {e : ME} {m : Nat} {xs : List PV} (i1 : Mot T (.e d e σ h (.ref m) h1)) (g : h1.get m = some (.lst xs)) : Mot T (.i d (.ex e) σ h (.live m) h1) := by
  intro X c tg ex n ρ H τ Q E hck htg S R P
  cases n with
  | zero => exact noci hck
  | succ n =>
  have hck : (ck T n).e c e ex = true := hck
  refine wI.of (pi_list wE.pe) (i1 X c ex n ρ H τ _ E hck S R fun ρ1 H1 u e1 S1 r1 => ?_)
  obtain ⟨a, us, rfl, z, rs, q⟩ := listAt S1 r1 g
  exact ⟨a, rfl, ⟨us, SqL.of q⟩, P _ _ _ e1 S1 ⟨a, z, rfl⟩⟩
theorem c_iT {e : ME} {xs : List PV} (i1 : Mot T (.e d e σ h (.tup xs) h1)) : Mot T (.i d (.ex e) σ h (.tup xs) h1) := by
  intro X c tg ex n ρ H τ Q E hck htg S R P
  cases n with
  | zero => exact noci hck
  | succ n =>
  have hck : (ck T n).e c e ex = true := hck
  refine wI.of (pi_tup wE.pe) (i1 X c ex n ρ H τ _ E hck S R fun ρ1 H1 u e1 S1 r1 => ?_)
  obtain ⟨a, us, rfl, t, rs⟩ := (show ∃ a us, u = .ref a ∧ TupAt X.K ρ1 H1 a us ∧ RVs X.K ρ1 H1 xs us from r1)
  exact ⟨a, rfl, ⟨us, t.sq⟩, P _ _ _ e1 S1 ⟨a, us, t, rs, rfl⟩⟩
theorem c_iR1 {j : Int} (i1 : Mot T (.e d a σ h (.int j) h1)) (l1 : -(2 ^ 62) ≤ j) (l2 : j < 2 ^ 62) : Mot T (.i d (.rg1 a) σ h (.rng 0 j.toNat) h1) := by
  intro X c tg ex n ρ H τ Q E hck htg S R P
  cases n with
  | zero => exact noci hck
  | succ n =>
  have hck : ckI (ck T n) c (.rg1 a) ex = true := hck
  simp only [ckI] at hck
  split at hck
  · simp only [Bool.and_eq_true, decide_eq_true_eq] at hck
    obtain ⟨⟨⟨hg, hx⟩, hst⟩, ca⟩ := hck
    subst hx
    obtain ⟨g1, _⟩ := gl_ok E hg
    refine wI.of (pi_range1 g1 (E.fa.free _ (by decide)) (pa_cons wE.pe pa_nil (star1 hst _)) (star1 hst _)) ?_
    exact i1 X c _ n ρ H τ _ E ca S R fun ρ1 H1 u e1 S1 r1 => ⟨j, by cases r1; rfl, l1, l2, P _ _ _ e1 S1 rfl⟩
  · cases hck
theorem c_iR2 {i j : Int} (i1 : Mot T (.e d a σ h (.int i) h1)) (i2 : Mot T (.e d b σ h1 (.int j) h2)) (k1 : -(2 ^ 62) ≤ i) (k2 : i < 2 ^ 62) (l1 : -(2 ^ 62) ≤ j) (l2 : j < 2 ^ 62) : Mot T (.i d (.rg2 a b) σ h (.rng i (j - i).toNat) h2) := by
  intro X c tg ex n ρ H τ Q E hck htg S R P
  cases n with
  | zero => exact noci hck
  | succ n =>
  have hck : ckI (ck T n) c (.rg2 a b) ex = true := hck
  simp only [ckI] at hck
  split at hck
  · simp only [Bool.and_eq_true, decide_eq_true_eq] at hck
    obtain ⟨⟨⟨⟨⟨hg, hx⟩, hst⟩, hst2⟩, ca⟩, cb⟩ := hck
    subst hx
    obtain ⟨g1, _⟩ := gl_ok E hg
    refine wI.of (pi_range2 g1 (E.fa.free _ (by decide)) (pa_cons wE.pe (pa_cons wE.pe pa_nil (star1 hst2 _)) (star1 hst _)) (by rw [star1 hst, star1 hst2]; rfl) (star1 hst2 _)) ?_
    exact i1 X c _ n ρ H τ _ E ca S R fun ρ1 H1 u e1 S1 r1 => i2 X c _ n ρ1 H1 τ _ E cb S1 (R.ext e1) fun ρ2 H2 w e2 S2 r2 => ⟨i, j, by cases r1; cases r2; rfl, ⟨k1, k2, l1, l2⟩, P _ _ _ (e1.trans e2) S2 rfl⟩
  · cases hck
theorem c_iE {e : ME} {m : Nat} {xs : List PV} (i1 : Mot T (.e d e σ h (.ref m) h1)) (g : h1.get m = some (.lst xs)) : Mot T (.i d (.enu e) σ h (.enu m) h1) := by
  intro X c tg ex n ρ H τ Q E hck htg S R P
  cases n with
  | zero => exact noci hck
  | succ n =>
  have hck : ckI (ck T n) c (.enu e) ex = true := hck
  simp only [ckI] at hck
  split at hck
  · simp only [Bool.and_eq_true, decide_eq_true_eq] at hck
    obtain ⟨⟨⟨hg, hx⟩, hst⟩, ca⟩ := hck
    subst hx
    obtain ⟨g1, _⟩ := gl_ok E hg
    unfold tgOk at htg
    cases tg with
    | Tuple elts kk tpos =>
      refine wI.of (pi_enum g1 (E.fa.free _ (by decide)) (pa_cons wE.pe pa_nil (star1 hst _)) (star1 hst _)) ?_
      refine i1 X c _ n ρ H τ _ E ca S R fun ρ1 H1 u e1 S1 r1 => ?_
      obtain ⟨a, us, rfl, z, rs, q⟩ := listAt S1 r1 g
      exact ⟨a, us, rfl, SqL.of q, P _ _ _ e1 S1 ⟨a, z, rfl⟩⟩
    | _ => cases htg
  · cases hck
end
end Mp
namespace Mp
open PySem PySem.Spec L2
/-! ### slots -/
theorem wipe_get (τ : St) (i : Nat) : ∀ vs : List Nat, (L2.wipe τ vs)[i]? = if i ∈ vs then (if i < τ.length then some none else none) else τ[i]?
  | [] => by simp [L2.wipe]
  | v :: vs => by
    have ih := wipe_get τ i vs
    unfold L2.wipe
    by_cases hv : v = i
    · subst hv
      rw [if_pos (List.mem_cons_self ..)]
      by_cases hl : v < (L2.wipe τ vs).length
      · rw [List.getElem?_set_self hl, if_pos (by rw [wipe_length] at hl; exact hl)]
      · rw [List.getElem?_eq_none (by simpa using hl), if_neg (by rw [wipe_length] at hl; exact hl)]
    · rw [List.getElem?_set_ne hv, ih]
      by_cases hm : i ∈ vs
      · rw [if_pos hm, if_pos (List.mem_cons_of_mem _ hm)]
      · rw [if_neg hm, if_neg (by rw [List.mem_cons]; intro z; exact z.elim (fun z => hv z.symm) (fun z => hm z))]
theorem wipe_eq {τ τ2 : St} {nms own : List Nat} (hs : subB nms own = true) (hl : τ2.length = (L2.wipe τ own).length) (h : ∀ i, i ∉ nms → τ2[i]? = (L2.wipe τ own)[i]?) : L2.wipe τ2 own = L2.wipe τ own := by
  refine List.ext_getElem? fun i => ?_
  have hl' : τ2.length = τ.length := by rw [hl, wipe_length]
  rw [wipe_get τ2 i own]
  by_cases hm : i ∈ own
  · rw [if_pos hm, wipe_get τ i own, if_pos hm, hl']
  · rw [if_neg hm]
    exact h i fun z => hm (subB_mem hs i z)
section
variable {X : Cx} {o : Expr} {f : Str} {pos : Pos} {τ : St} {H : Hp} {v : V} {Q : St → Hp → Prop}
/-- o.f = v -/
theorem setF_gen (h : wE X o τ H fun x H1 => ∃ a C dx fs, x = .ref a ∧ H1 a = some (.ins C dx fs) ∧ Cls X.K C ∧ NoAttr X.K C f ∧ fs.length < 1000 ∧ Q τ (upd H1 a (.ins C dx (putF f v fs)))) : wG X (.Attribute o f pos) v τ H Q := by
  intro pins s u I r
  show wpAny _ _ (do
    let ov ← holding [u] (eval o X.env)
    standAt pos.atName
    holding [u, ov] (setAttr ov f u)
    release [u, ov] []) _ _ s
  refine wpAny_bind (wpAny_holding (thn (h pins s I) fun ov s1 ⟨x, H1, I1, rx, a, C, dx, fs, ex, ea, c, n, l, q⟩ => ?_))
  subst ex
  obtain rfl : ov = Value.ref a := rx
  refine wpAny_bind (wpAny_standAt (wpAny_bind (wpAny_holding (setattr_ok I1 ea c n l r fun s3 I3 => ?_))))
  exact wpAny_release ⟨τ, _, I3, q⟩
end
section
variable {T : Tab} {d : Nat} {σ σ' σ1 σ2 : Ev} {h h1 h2 h3 h4 h5 h6 h' : MH} {a b : ME} {v x y : PV} {as : List ME} {vs : List PV}
theorem c_gN {i : Nat} : Mot T (.g d (.nm i) v σ h (σ.set i (some v)) h) := by
  intro X c ex n ρ H τ u Q E hck S R rv P
  cases n with
  | zero => exact noct hck
  | succ n =>
  have hck : ckT T (ck T n) c (.nm i) ex = true := hck
  simp only [ckT] at hck
  split at hck
  · rw [Bool.and_eq_true] at hck
    obtain ⟨l1, l2⟩ := loc_ok E hck.2
    refine wG.of (pg_name E.nd (slot_ok E hck.1) l1 l2) ?_
    refine P ρ H _ (Ext.refl _ _) S (R.set rv i) ⟨by simp, fun j hj => ?_⟩
    have hne : i ≠ j := fun z => hj (by rw [← z]; exact List.mem_cons_self ..)
    exact List.getElem?_set_ne hne
  · cases hck
theorem c_gT {ts : List MT} (hl : ts.length = vs.length) (i1 : Mot T (.gs d ts vs σ h σ' h')) : Mot T (.g d (.tp ts) (.tup vs) σ h σ' h') := by
  intro X c ex n ρ H τ u Q E hck S R rv P
  cases n with
  | zero => exact noct hck
  | succ n =>
  have hck : ckT T (ck T n) c (.tp ts) ex = true := hck
  simp only [ckT] at hck
  split at hck
  · rw [Bool.and_eq_true] at hck
    obtain ⟨q1, q2⟩ := asg_all hck.1 X.env
    refine wG.of (pg_tup E.calm wGs.pgs q1 q2) ?_
    obtain ⟨a, us, rfl, t, rs⟩ := (show ∃ a us, u = .ref a ∧ TupAt X.K ρ H a us ∧ RVs X.K ρ H vs us from rv)
    refine ⟨a, us, rfl, t.sq, by rw [← rs.len, ← hl, allB2_len hck.2], ?_⟩
    exact i1 X c _ n ρ H τ us Q E hck.2 hck.1 S R rs P
  · cases hck
theorem c_gA {o : ME} {f m c : Nat} {fs : List (Nat × PV)} (i1 : Mot T (.e d o σ h (.ref m) h1)) (g : h1.get m = some (.ins c fs)) (hf : fldF T c f = true) (hl : fs.length < 900) : Mot T (.g d (.at o f) v σ h σ (h1.put m (.ins c (putM f v fs)))) := by
  intro X cc ex n ρ H τ u Q E hck S R rv P
  cases n with
  | zero => exact noct hck
  | succ n =>
  have hck : ckT T (ck T n) cc (.at o f) ex = true := hck
  simp only [ckT] at hck
  split at hck
  · rename_i fx _ _
    simp only [Bool.and_eq_true, decide_eq_true_eq] at hck
    obtain ⟨⟨hx, hb⟩, co⟩ := hck
    refine setF_gen (i1 X cc _ n ρ H τ _ E co S R fun ρ1 H1 w e1 S1 r1 => ?_)
    obtain ⟨a, C, dx, fu, rfl, z, hC, fr, q⟩ := insAt S1 r1 g
    obtain ⟨C', hC', hex, hfl⟩ := fld_inv hf
    rw [hC] at hC'
    cases hC'
    have hlen := fr.length
    refine ⟨a, _, dx, fu, rfl, q, E.fa.cl c C hC hex, E.fa.na c f C _ hC hex hfl hx, by omega, ?_⟩
    have w := Ext.wrote S1 (o := .ins (He.ga X.K C.name) dx (putF fx u fu)) z
    have hcl : clA T X.K c = some (He.ga X.K C.name) := by unfold clA; rw [hC]; rfl
    have fr2 := FR.put E.fa.nmd hx (rv.ext e1) fr
    exact P ρ1 _ τ (e1.trans w) (S1.wrote z ⟨_, dx, _, hcl, FR.ext w fr2, upd_same⟩) (R.ext (e1.trans w)) ⟨rfl, fun _ _ => rfl⟩
  · cases hck
theorem c_gI {o i : ME} (i1 : Mot T (.e d o σ h x h1)) (i2 : Mot T (.e d i σ h1 y h2)) (hs : setV x y v h2 = some h3) : Mot T (.g d (.ix o i) v σ h σ h3) := by
  intro X c ex n ρ H τ u Q E hck S R rv P
  cases n with
  | zero => exact noct hck
  | succ n =>
  have hck : ckT T (ck T n) c (.ix o i) ex = true := hck
  simp only [ckT] at hck
  split at hck
  · simp only [Bool.and_eq_true] at hck
    obtain ⟨⟨hsl, co⟩, ci⟩ := hck
    refine wG.of (pg_sub wE.pe wE.pe set_list (sub_asg hsl)) ?_
    refine i1 X c _ n ρ H τ _ E co S R fun ρ1 H1 ou e1 S1 r1 => i2 X c _ n ρ1 H1 τ _ E ci S1 (R.ext e1) fun ρ2 H2 iu e2 S2 r2 => ?_
    exact set_ok S2 hs (r1.ext e2) r2 (rv.ext (e1.trans e2)) fun H' w S' => P ρ2 H' τ ((e1.trans e2).trans w) S' (R.ext ((e1.trans e2).trans w)) ⟨rfl, fun _ _ => rfl⟩
  · cases hck
theorem c_gsN : Mot T (.gs d [] [] σ h σ h) := by
  intro X c exs n ρ H τ us Q E hck hs S R rv P
  rw [allB2_nil hck]
  exact wGs.of pgs_nil ⟨rv.nil_inv, P ρ H τ (Ext.refl _ _) S R ⟨rfl, fun _ _ => rfl⟩⟩
theorem c_gsC {t : MT} {ts : List MT} (i1 : Mot T (.g d t v σ h σ1 h1)) (i2 : Mot T (.gs d ts vs σ1 h1 σ2 h2)) : Mot T (.gs d (t :: ts) (v :: vs) σ h σ2 h2) := by
  intro X c exs n ρ H τ us Q E hck hs S R rv P
  obtain ⟨e, r, rfl, c1, c2⟩ := allB2_cons hck
  rw [List.all_cons, Bool.and_eq_true] at hs
  obtain ⟨u, ws, rfl, r1, r2⟩ := rv.inv
  refine wGs.of (pgs_cons wG.pg wGs.pgs (by rw [asg1 hs.1]; rfl)) ⟨u, ws, rfl, ?_⟩
  refine i1 X c e n ρ H τ u _ E c1 S R r1 fun ρ1 H1 τ1 e1 S1 R1 k1 => ?_
  refine i2 X c r n ρ1 H1 τ1 ws Q E c2 hs.2 S1 R1 (r2.ext e1) fun ρ2 H2 τ2 e2 S2 R2 k2 => ?_
  refine P ρ2 H2 τ2 (e1.trans e2) S2 R2 ⟨k2.1.trans k1.1, fun i hi => ?_⟩
  have hi' : i ∉ t.nms ++ MT.nmss ts := hi
  rw [List.mem_append] at hi'
  exact (k2.2 i fun z => hi' (.inr z)).trans (k1.2 i fun z => hi' (.inl z))
/-! ### comprehensions -/
theorem c_cpE {elt : ME} {own : List Nat} {t : MT} {ifs : List ME} {r : IT} {i D n : Nat} (hl : r.len h = some n) (hi : n ≤ i) : Mot T (.cp d elt own t ifs r i D σ h h) :=
  ⟨0, fun X scope c te fe ee k ρ H τ Da J Q EB ct cf ce hsub S R w z P => .inl ⟨it_stop S w hl hi, P ρ H (Ext.refl _ _) S⟩⟩
theorem c_cpT {elt : ME} {own : List Nat} {t : MT} {ifs : List ME} {r : IT} {i D : Nat} {acc : List PV} (hx : r.at h i = some x) (ig : Mot T (.g d t x (wipeM own σ) h σ2 h2)) (its : Mot T (.ts d ifs σ2 h2 true h3)) (ie : Mot T (.e d elt σ2 h3 v h4))
    (g : h4.get D = some (.lst acc)) (hb : acc.length < big) (ir : Mot T (.cp d elt own t ifs r (i + 1) D σ (h4.put D (.lst (acc ++ [v]))) h5)) : Mot T (.cp d elt own t ifs r i D σ h h5) := by
  obtain ⟨m, ir⟩ := ir
  refine ⟨m + 1, fun X scope c te fe ee k ρ H τ Da J Q EB ct cf ce hsub S R w z P => .inr ?_⟩
  have hbl := big_line
  obtain ⟨go, yl⟩ := it_go S w hx
  refine ⟨go, fun u H' y => ?_⟩
  obtain ⟨e0, S0, ru⟩ := yl u H' y
  intro s H0 C cl fp
  refine ig _ c te k ρ H' (L2.wipe τ own) u _ (EB s H0 C cl fp) ct S0 ((R.ext e0).wipe own) ru fun ρ2 H2 τ2 e2 S2 R2 k2 => ⟨wipe_eq hsub k2.1 k2.2, ?_⟩
  intro s H0 C cl fp
  refine its _ c fe k ρ2 H2 τ2 _ (EB s H0 C cl fp) cf S2 R2 fun ρ3 H3 e3 S3 => ?_
  intro s H0 C cl fp
  refine ie _ c ee k ρ3 H3 τ2 _ (EB s H0 C cl fp) ce S3 (R2.ext e3) fun ρ4 H4 yv e4 S4 r4 => ?_
  have eA := ((e0.trans e2).trans e3).trans e4
  have z4 := eA.pre _ _ z
  obtain ⟨us, rs, q⟩ := listAtK S4 z4 g
  have l := rs.len
  have wr := Ext.wrote S4 (o := .lst (us ++ [yv])) z4
  refine ⟨us, q, by omega, ?_⟩
  refine ir X scope c te fe ee k ρ4 _ τ Da J Q EB ct cf ce hsub (S4.wrote z4 ⟨_, (rs.app (RVs.one r4)).ext wr, upd_same⟩) (R.ext (eA.trans wr)) (w.ext (eA.trans wr)) z4 (PostH.ext (eA.trans wr) P)
theorem c_cpF {elt : ME} {own : List Nat} {t : MT} {ifs : List ME} {r : IT} {i D : Nat} (hx : r.at h i = some x) (ig : Mot T (.g d t x (wipeM own σ) h σ2 h2)) (its : Mot T (.ts d ifs σ2 h2 false h3))
    (ir : Mot T (.cp d elt own t ifs r (i + 1) D σ h3 h5)) : Mot T (.cp d elt own t ifs r i D σ h h5) := by
  obtain ⟨m, ir⟩ := ir
  refine ⟨m + 1, fun X scope c te fe ee k ρ H τ Da J Q EB ct cf ce hsub S R w z P => .inr ?_⟩
  obtain ⟨go, yl⟩ := it_go S w hx
  refine ⟨go, fun u H' y => ?_⟩
  obtain ⟨e0, S0, ru⟩ := yl u H' y
  intro s H0 C cl fp
  refine ig _ c te k ρ H' (L2.wipe τ own) u _ (EB s H0 C cl fp) ct S0 ((R.ext e0).wipe own) ru fun ρ2 H2 τ2 e2 S2 R2 k2 => ⟨wipe_eq hsub k2.1 k2.2, ?_⟩
  intro s H0 C cl fp
  refine its _ c fe k ρ2 H2 τ2 _ (EB s H0 C cl fp) cf S2 R2 fun ρ3 H3 e3 S3 => ?_
  have eA := (e0.trans e2).trans e3
  exact ir X scope c te fe ee k ρ3 _ τ Da J Q EB ct cf ce hsub S3 (R.ext eA) (w.ext eA) (eA.pre _ _ z) (PostH.ext eA P)
theorem c_dpE {kk vv : ME} {own : List Nat} {t : MT} {ifs : List ME} {r : IT} {i D n : Nat} (hl : r.len h = some n) (hi : n ≤ i) : Mot T (.dp d kk vv own t ifs r i D σ h h) :=
  ⟨0, fun X scope c te fe ke ve k ρ H τ Da J Q EB ct cf ce ce2 hsub S R w z P => .inl ⟨it_stop S w hl hi, P ρ H (Ext.refl _ _) S⟩⟩
theorem c_dpT {kk vv : ME} {own : List Nat} {t : MT} {ifs : List ME} {r : IT} {i D : Nat} {kv vx : PV} {key : Key} {acc : List (Key × PV)} (hx : r.at h i = some x) (ig : Mot T (.g d t x (wipeM own σ) h σ2 h2)) (its : Mot T (.ts d ifs σ2 h2 true h3)) (ik : Mot T (.e d kk σ2 h3 kv h4)) (hk : keyOf kv = some key) (iv : Mot T (.e d vv σ2 h4 vx h5))
    (g : h5.get D = some (.dict acc)) (hb : acc.length < big) (ir : Mot T (.dp d kk vv own t ifs r (i + 1) D σ (h5.put D (.dict (putK key vx acc))) h6)) : Mot T (.dp d kk vv own t ifs r i D σ h h6) := by
  obtain ⟨m, ir⟩ := ir
  refine ⟨m + 1, fun X scope c te fe ke ve k ρ H τ Da J Q EB ct cf ce ce2 hsub S R w z P => .inr ?_⟩
  have hbl := big_line
  obtain ⟨go, yl⟩ := it_go S w hx
  refine ⟨go, fun u H' y => ?_⟩
  obtain ⟨e0, S0, ru⟩ := yl u H' y
  intro s H0 C cl fp
  refine ig _ c te k ρ H' (L2.wipe τ own) u _ (EB s H0 C cl fp) ct S0 ((R.ext e0).wipe own) ru fun ρ2 H2 τ2 e2 S2 R2 k2 => ⟨wipe_eq hsub k2.1 k2.2, ?_⟩
  intro s H0 C cl fp
  refine its _ c fe k ρ2 H2 τ2 _ (EB s H0 C cl fp) cf S2 R2 fun ρ3 H3 e3 S3 => ?_
  intro s H0 C cl fp
  refine ik _ c ke k ρ3 H3 τ2 _ (EB s H0 C cl fp) ce S3 (R2.ext e3) fun ρ4 H4 yk e4 S4 r4 => ?_
  intro s H0 C cl fp
  refine iv _ c ve k ρ4 H4 τ2 _ (EB s H0 C cl fp) ce2 S4 (R2.ext (e3.trans e4)) fun ρ5 H5 yv e5 S5 r5 => ?_
  have eA := (((e0.trans e2).trans e3).trans e4).trans e5
  have z5 := eA.pre _ _ z
  obtain ⟨ku, rs, q⟩ : ∃ ku, KR X.K ρ5 H5 acc ku ∧ H5 Da = some (.dK ku) := S5.at z5 g
  have l := rs.length
  have wr := Ext.wrote S5 (o := .dK (L2.putK ku key yv)) z5
  refine ⟨ku, key, keyOf_ok hk r4, q, by omega, ?_⟩
  refine ir X scope c te fe ke ve k ρ5 _ τ Da J Q EB ct cf ce ce2 hsub (S5.wrote z5 ⟨_, KR.ext wr (putK_ok rs r5), upd_same⟩) (R.ext (eA.trans wr)) (w.ext (eA.trans wr)) z5 (PostH.ext (eA.trans wr) P)
theorem c_cqE {elt : ME} {own vs1 : List Nat} {t t1 : MT} {ifs ifs1 : List ME} {it1 : MI} {r : IT} {i D n : Nat} (hl : r.len h = some n) (hi : n ≤ i) : Mot T (.cq d elt own vs1 t ifs t1 it1 ifs1 r i D σ h h) :=
  ⟨0, fun X scope c te fe te1 ie1 fe1 ee k ρ H τ Da J Q EB ct cf ct1 ci1 htg cf1 ce hs hs1 S R w z P => .inl ⟨it_stop S w hl hi, P ρ H (Ext.refl _ _) S⟩⟩
theorem c_cqT {elt : ME} {own vs1 : List Nat} {t t1 : MT} {ifs ifs1 : List ME} {it1 : MI} {r r1 : IT} {i D : Nat} (hx : r.at h i = some x) (ig : Mot T (.g d t x (wipeM own σ) h σ2 h2)) (its : Mot T (.ts d ifs σ2 h2 true h3)) (ii : Mot T (.i d it1 σ2 h3 r1 h4))
    (ic : Mot T (.cp d elt vs1 t1 ifs1 r1 0 D σ2 h4 h5)) (ir : Mot T (.cq d elt own vs1 t ifs t1 it1 ifs1 r (i + 1) D σ h5 h6)) : Mot T (.cq d elt own vs1 t ifs t1 it1 ifs1 r i D σ h h6) := by
  obtain ⟨m, ir⟩ := ir
  obtain ⟨m1, ic⟩ := ic
  refine ⟨m + 1, fun X scope c te fe te1 ie1 fe1 ee k ρ H τ Da J Q EB ct cf ct1 ci1 htg cf1 ce hs hs1 S R w z P => .inr ?_⟩
  obtain ⟨go, yl⟩ := it_go S w hx
  refine ⟨go, fun u H' y => ?_⟩
  obtain ⟨e0, S0, ru⟩ := yl u H' y
  intro s H0 C cl fp
  refine ig _ c te k ρ H' (L2.wipe τ own) u _ (EB s H0 C cl fp) ct S0 ((R.ext e0).wipe own) ru fun ρ2 H2 τ2 e2 S2 R2 k2 => ⟨wipe_eq hs k2.1 k2.2, ?_⟩
  intro s H0 C cl fp
  refine its _ c fe k ρ2 H2 τ2 _ (EB s H0 C cl fp) cf S2 R2 fun ρ3 H3 e3 S3 => ?_
  intro s H0 C cl fp
  refine ii _ c te1 ie1 k ρ3 H3 τ2 _ (EB s H0 C cl fp) ci1 htg S3 (R2.ext e3) fun ρ4 H4 J1 e4 S4 w4 => ⟨m1, ?_⟩
  have eA := ((e0.trans e2).trans e3).trans e4
  refine ic X scope c te1 fe1 ee k ρ4 H4 τ2 Da J1 _ EB ct1 cf1 ce hs1 S4 (R2.ext (e3.trans e4)) w4 (eA.pre _ _ z) fun ρ5 H5 e5 S5 => ?_
  have eB := eA.trans e5
  exact ir X scope c te fe te1 ie1 fe1 ee k ρ5 H5 τ Da J Q EB ct cf ct1 ci1 htg cf1 ce hs hs1 S5 (R.ext eB) (w.ext eB) (eB.pre _ _ z) (PostH.ext eB P)
theorem c_cqF {elt : ME} {own vs1 : List Nat} {t t1 : MT} {ifs ifs1 : List ME} {it1 : MI} {r : IT} {i D : Nat} (hx : r.at h i = some x) (ig : Mot T (.g d t x (wipeM own σ) h σ2 h2)) (its : Mot T (.ts d ifs σ2 h2 false h3))
    (ir : Mot T (.cq d elt own vs1 t ifs t1 it1 ifs1 r (i + 1) D σ h3 h6)) : Mot T (.cq d elt own vs1 t ifs t1 it1 ifs1 r i D σ h h6) := by
  obtain ⟨m, ir⟩ := ir
  refine ⟨m + 1, fun X scope c te fe te1 ie1 fe1 ee k ρ H τ Da J Q EB ct cf ct1 ci1 htg cf1 ce hs hs1 S R w z P => .inr ?_⟩
  obtain ⟨go, yl⟩ := it_go S w hx
  refine ⟨go, fun u H' y => ?_⟩
  obtain ⟨e0, S0, ru⟩ := yl u H' y
  intro s H0 C cl fp
  refine ig _ c te k ρ H' (L2.wipe τ own) u _ (EB s H0 C cl fp) ct S0 ((R.ext e0).wipe own) ru fun ρ2 H2 τ2 e2 S2 R2 k2 => ⟨wipe_eq hs k2.1 k2.2, ?_⟩
  intro s H0 C cl fp
  refine its _ c fe k ρ2 H2 τ2 _ (EB s H0 C cl fp) cf S2 R2 fun ρ3 H3 e3 S3 => ?_
  have eA := (e0.trans e2).trans e3
  exact ir X scope c te fe te1 ie1 fe1 ee k ρ3 H3 τ Da J Q EB ct cf ct1 ci1 htg cf1 ce hs hs1 S3 (R.ext eA) (w.ext eA) (eA.pre _ _ z) (PostH.ext eA P)
end
end Mp
namespace Mp
open PySem PySem.Spec L2
section
variable {T : Tab} {d : Nat} {σ σ' σ1 σ2 : Ev} {h h1 h2 h3 h4 h5 h6 h' : MH} {a b : ME} {v x y : PV} {as : List ME} {vs : List PV}
theorem nocs {P : Prop} {c : CC} {m : MS} {st : Stmt} (h : (ckSt T 0).s c m st = true) : P := nomatch (show false = true from h)
/-- stores that are not exchanged -/
theorem swaps_no {n : Nat} {c : CC} {X : Cx} {W : WX} {t : MT} {e : ME} {te ee : Expr} {l : Nat} (SCx : SC T c d X W) (hp : plainA t e = true) (ct : (ck T n).t c t te = true) (ce : (ck T n).e c e ee = true) (ha : lcAsg c te ee l = true) : swapsWithSole [te] ee l X.env = pure false := by
  cases n with
  | zero => exact noct ct
  | succ n =>
  have ct : ckT T (ck T n) c t te = true := ct
  have ce : ckE T (ck T n) c e ee = true := ce
  cases ee with
  | ListComp elt gens scope pos =>
    cases te with
    | Name y py =>
      have ht : ∃ i, t = .nm i := by
        cases t with
        | nm i => exact ⟨i, rfl⟩
        | _ => simp only [ckT] at ct; cases ct
      obtain ⟨i, rfl⟩ := ht
      cases e with
      | lcomp _ _ _ _ _ => cases hp
      | lcomp2 _ _ _ _ _ _ _ _ _ => cases hp
      | gv _ => exact nomatch (show false = true from ce)
      | slc _ _ _ => exact nomatch (show false = true from ce)
      | _ => simp only [ckE] at ce; cases ce
    | _ => rfl
  | SetComp _ _ _ _ => cases ha
  | DictComp k v gens scope pos =>
    cases te with
    | Name y py =>
      unfold lcAsg at ha
      rw [Bool.or_eq_true, Bool.not_eq_true', decide_eq_false_iff_not, Bool.not_eq_true'] at ha
      show swapsWith (.DictComp k v gens scope pos) (some (.Name y py)) l X.env = pure false
      have hk : X.env.kindOf y = c.sc.names.lookup y := by show X.env.scope.names.lookup y = _; rw [SCx.ec.sc]
      have hb : (X.env.blockKind == .function && X.env.kindOf y == some .local && py.line == (Expr.DictComp k v gens scope pos).pos.line && !(scope.names.any fun (n, k) => n == y && (k == .local || k == .cell))) = false := by
        rcases ha with ha | ha
        · have : (X.env.kindOf y == some .local) = false := by rw [hk]; exact beq_eq_false_iff_ne.mpr ha
          rw [this]
          simp
        · have : (py.line == (Expr.DictComp k v gens scope pos).pos.line) = false := ha
          rw [this]
          simp
      unfold swapsWith
      simp only [hb]
    | _ => rfl
  | _ => rfl
theorem stores_no {te ee : Expr} {env : Env} (h : (match ee with | .Tuple _ _ _ => (match te with | .Tuple _ _ _ => false | .List _ _ => false | _ => true) | _ => true) = true) : swappedStores [te] ee env = pure none := by
  cases ee with
  | Tuple _ _ _ =>
    cases te <;> first | rfl | cases h
  | _ => cases te <;> rfl
def lcCond (env : Env) (y : Str) (py : Pos) (scope : Scope) (pos : Pos) : Bool := env.blockKind == .function && env.kindOf y == some .local && py.line == pos.line && !(scope.names.any fun (n, k) => n == y && (k == .local || k == .cell))
theorem swaps_lc {env : Env} {y : Str} {py : Pos} {elt : Expr} {gens : List Comprehension} {scope : Scope} {pos : Pos} {l : Nat} : swapsWith (.ListComp elt gens scope pos) (some (.Name y py)) l env = pure (lcCond env y py scope pos) := rfl
theorem lc_local {env : Env} {y : Str} {py : Pos} {scope : Scope} {pos : Pos} (h : lcCond env y py scope pos = true) : env.scope.names.lookup y = some .local := by
  unfold lcCond at h
  simp only [Bool.and_eq_true] at h
  exact eq_of_beq h.1.1.2
theorem PostG.nx {K : PySem.W.Frag} {ρ : List Addr} {H : Hp} {D : Ends} {W : WX} (P : PostS T K ρ H (.nx σ h) D W) : PostG T K ρ H σ h D.nx := P
theorem c_asg {t : MT} {e : ME} (hp : plainA t e = true) (i1 : Mot T (.e d e σ h v h1)) (i2 : Mot T (.g d t v σ h1 σ2 h2)) : Mot T (.s d (.asg t e) σ h (.nx σ2 h2)) := by
  intro X c W st n ρ H τ D SC hck S R P
  cases n with
  | zero => exact nocs hck
  | succ n =>
  have hck : ckS T (ckSt T n) c (.asg t e) st = true := hck
  simp only [ckS] at hck
  split at hck
  · simp only [Bool.and_eq_true] at hck
    obtain ⟨⟨⟨⟨ct, ce⟩, hl⟩, hst⟩, htt⟩ := hck
    refine wS.of (ps_asg wE.pe wG.pg (swaps_no SC hp ct ce hl) (stores_no htt) (by rw [asg1 hst]; rfl)) ?_
    refine i1 X c _ fuel ρ H τ _ SC.ec ce S R fun ρ1 H1 u e1 S1 r1 => ?_
    exact i2 X c _ fuel ρ1 H1 τ u _ SC.ec ct S1 (R.ext e1) r1 (PostG.gt (PostG.ext e1 P))
  · cases hck
theorem c_asgX {t : MT} {f c0 : Nat} {fs : List (Nat × PV)} (i1 : Mot T (.x d (.call f as) σ h c0 fs h1)) : Mot T (.s d (.asg t (.call f as)) σ h (.ex c0 fs σ h1)) := by
  intro X c W st n ρ H τ D SC hck S R P
  cases n with
  | zero => exact nocs hck
  | succ n =>
  have hck : ckS T (ckSt T n) c (.asg t (.call f as)) st = true := hck
  simp only [ckS] at hck
  split at hck
  · simp only [Bool.and_eq_true] at hck
    obtain ⟨⟨⟨⟨ct, ce⟩, hl⟩, hst⟩, htt⟩ := hck
    have hp : plainA t (.call f as) = true := by cases t <;> rfl
    refine wS.of (ps_asg wE.pe wG.pg (swaps_no SC hp ct ce hl) (stores_no htt) (by rw [asg1 hst]; rfl)) ?_
    exact i1 X c W _ fuel ρ H τ _ SC ce S R fun ρ' H' dd C e' S' hC ex => P ρ' H' τ dd C e' S' (R.ext e') hC ex
  · cases hck
theorem c_asgL {k : Nat} {own : List Nat} {elt : ME} {t : MT} {it : MI} {ifs : List ME} {r : IT} (i1 : Mot T (.i d it σ h r h1)) (i2 : Mot T (.cp d elt own t ifs r 0 h1.nx σ (h1.new (.lst [])) h2)) :
    Mot T (.s d (.asg (.nm k) (.lcomp own elt t it ifs)) σ h (.nx (σ.set k (some (.ref h1.nx))) h2)) := by
  have iE := c_lcomp i1 i2
  obtain ⟨m, i2⟩ := i2
  intro X c W st n ρ H τ Dn SC hck S R P
  have E := SC.ec
  cases n with
  | zero => exact nocs hck
  | succ n =>
  have hck : ckS T (ckSt T n) c (.asg (.nm k) (.lcomp own elt t it ifs)) st = true := hck
  simp only [ckS] at hck
  split at hck
  · rename_i te0 ee0 pos0 _
    simp only [Bool.and_eq_true] at hck
    obtain ⟨⟨⟨⟨ct0, ce0⟩, hl⟩, hst⟩, htt⟩ := hck
    have ct9 := ct0
    have ce9 := ce0
    have ct0 : ckT T (ck T 59) c (.nm k) te0 = true := ct0
    have ce0 : ckE T (ck T 59) c (.lcomp own elt t it ifs) ee0 = true := ce0
    simp only [ckT] at ct0
    split at ct0
    · rename_i y py _
      simp only [ckE] at ce0
      split at ce0
      · rename_i ee te ie fe scope pos _
        rw [Bool.and_eq_true] at ct0
        simp only [Bool.and_eq_true] at ce0
        obtain ⟨⟨⟨⟨⟨⟨⟨⟨hb, hsub⟩, htg⟩, ci⟩, hns⟩, ct⟩, ce⟩, cf⟩, _⟩ := ce0
        by_cases hsw0 : lcCond X.env y py scope pos = true
        case neg =>
          have hsw1 : lcCond X.env y py scope pos = false := Bool.eq_false_iff.mpr hsw0
          refine wS.of (ps_asg wE.pe wG.pg (by rw [show swapsWithSole [Expr.Name y py] (.ListComp ee [⟨te, ie, fe, 0⟩] scope pos) pos0.line X.env = pure (lcCond X.env y py scope pos) from rfl, hsw1]) (stores_no htt) (by rw [asg1 hst]; rfl)) ?_
          refine iE X c _ fuel ρ H τ _ E ce9 S R fun ρ1 H1 u e1 S1 r1 => ?_
          exact c_gN X c _ fuel ρ1 H1 τ u _ E ct9 S1 (R.ext e1) r1 (PostG.gt (PostG.ext e1 P))
        have hloc := lc_local hsw0
        have hsw : swapsWith (.ListComp ee [⟨te, ie, fe, 0⟩] scope pos) (some (.Name y py)) pos0.line X.env = pure true := by rw [swaps_lc, hsw0]
        refine wS.of (ps_setLc (own := own.map fun i => (c.N.getD i Str.empty, i)) E.calm E.nd (slot_ok E ct0.1) hloc hsw wI.pi (blk_ok E hb) (fun s H0 C cl fp => bG.pg X s H0 C cl fp) (fun s H0 C cl fp => bTs.pts X s H0 C cl fp) (fun s H0 C cl fp => bE.pe X s H0 C cl fp) (fold_ok hns _)) ?_
        rw [own_snd]
        refine i1 X c te _ 59 ρ H τ _ E ci htg S R fun ρ1 H1 J e1 S1 w1 D hD => ?_
        have eL := Ext.laid (o := .lst []) S1 hD
        have SL : Sim T X.K (ρ1 ++ [D]) (upd H1 D (.lst [])) (h1.new (.lst [])) := S1.laid hD ⟨[], rfl, upd_same⟩
        refine LcW.run X (Q := fun H' => gName k (.ref D) τ H' Dn.nx) (m := m) ?_
        refine i2 X scope (c.blk scope) te fe ee 59 _ _ τ D J _ (E.blk scope) ct cf ce hsub SL (R.ext (e1.trans eL)) (w1.ext eL) (new_at S1) fun ρ2 H2 e2 S2 => ?_
        have eA := (e1.trans eL).trans e2
        exact P ρ2 H2 _ eA S2 ((R.ext eA).set (v := .ref h1.nx) (u := .ref D) ⟨D, rfl, e2.pre _ _ (new_at S1)⟩ k)
      · cases ce0
    · cases ct0
  · cases hck
theorem c_asgL2 {k : Nat} {own vs1 : List Nat} {elt : ME} {t t1 : MT} {it it1 : MI} {ifs ifs1 : List ME} {r : IT} (i1 : Mot T (.i d it σ h r h1)) (i2 : Mot T (.cq d elt own vs1 t ifs t1 it1 ifs1 r 0 h1.nx σ (h1.new (.lst [])) h2)) :
    Mot T (.s d (.asg (.nm k) (.lcomp2 own vs1 elt t it ifs t1 it1 ifs1)) σ h (.nx (σ.set k (some (.ref h1.nx))) h2)) := by
  have iE := c_lcomp2 i1 i2
  obtain ⟨m, i2⟩ := i2
  intro X c W st n ρ H τ Dn SC hck S R P
  have E := SC.ec
  cases n with
  | zero => exact nocs hck
  | succ n =>
  have hck : ckS T (ckSt T n) c (.asg (.nm k) (.lcomp2 own vs1 elt t it ifs t1 it1 ifs1)) st = true := hck
  simp only [ckS] at hck
  split at hck
  · rename_i te0 ee0 pos0 _
    simp only [Bool.and_eq_true] at hck
    obtain ⟨⟨⟨⟨ct0, ce0⟩, hl⟩, hst⟩, htt⟩ := hck
    have ct9 := ct0
    have ce9 := ce0
    have ct0 : ckT T (ck T 59) c (.nm k) te0 = true := ct0
    have ce0 : ckE T (ck T 59) c (.lcomp2 own vs1 elt t it ifs t1 it1 ifs1) ee0 = true := ce0
    simp only [ckT] at ct0
    split at ct0
    · rename_i y py _
      simp only [ckE] at ce0
      split at ce0
      · rename_i ee te ie fe te1 ie1 fe1 scope pos _
        rw [Bool.and_eq_true] at ct0
        simp only [Bool.and_eq_true] at ce0
        obtain ⟨⟨⟨⟨⟨⟨⟨⟨⟨⟨⟨⟨⟨⟨⟨⟨hb, hsv⟩, hsub⟩, hsub1⟩, htg⟩, htg1⟩, ci⟩, hns⟩, ct⟩, cf⟩, _⟩, ci1⟩, hns1⟩, ct1⟩, ce⟩, cf1⟩, _⟩ := ce0
        by_cases hsw0 : lcCond X.env y py scope pos = true
        case neg =>
          have hsw1 : lcCond X.env y py scope pos = false := Bool.eq_false_iff.mpr hsw0
          refine wS.of (ps_asg wE.pe wG.pg (by rw [show swapsWithSole [Expr.Name y py] (.ListComp ee [⟨te, ie, fe, 0⟩, ⟨te1, ie1, fe1, 0⟩] scope pos) pos0.line X.env = pure (lcCond X.env y py scope pos) from rfl, hsw1]) (stores_no htt) (by rw [asg1 hst]; rfl)) ?_
          refine iE X c _ fuel ρ H τ _ E ce9 S R fun ρ1 H1 u e1 S1 r1 => ?_
          exact c_gN X c _ fuel ρ1 H1 τ u _ E ct9 S1 (R.ext e1) r1 (PostG.gt (PostG.ext e1 P))
        have hloc := lc_local hsw0
        have hsw : swapsWith (.ListComp ee [⟨te, ie, fe, 0⟩, ⟨te1, ie1, fe1, 0⟩] scope pos) (some (.Name y py)) pos0.line X.env = pure true := by rw [swaps_lc, hsw0]
        refine wS.of (ps_setLc2 (own := own.map fun i => (c.N.getD i Str.empty, i)) (vs1 := vs1) E.calm E.nd (slot_ok E ct0.1) hloc hsw wI.pi (blk_ok E hb) (by rw [own_snd]; exact subB_mem hsv) (fun s H0 C cl fp => bG.pg X s H0 C cl fp) (fun s H0 C cl fp => bTs.pts X s H0 C cl fp)
          (fun s H0 C cl fp => bI.pi X s H0 C cl fp) (fun s H0 C cl fp => bG.pg X s H0 C cl fp) (fun s H0 C cl fp => bTs.pts X s H0 C cl fp) (fun s H0 C cl fp => bE.pe X s H0 C cl fp) (fold_ok hns _) (fold_ok hns1)) ?_
        rw [own_snd]
        refine i1 X c te _ 59 ρ H τ _ E ci htg S R fun ρ1 H1 J e1 S1 w1 D hD => ?_
        have eL := Ext.laid (o := .lst []) S1 hD
        have SL : Sim T X.K (ρ1 ++ [D]) (upd H1 D (.lst [])) (h1.new (.lst [])) := S1.laid hD ⟨[], rfl, upd_same⟩
        refine LqW.run (Q := fun H' => gName k (.ref D) τ H' Dn.nx) (m := m) ?_
        refine i2 X scope (c.blk scope) te fe te1 ie1 fe1 ee 59 _ _ τ D J _ (E.blk scope) ct cf ct1 ci1 htg1 cf1 ce hsub hsub1 SL (R.ext (e1.trans eL)) (w1.ext eL) (new_at S1) fun ρ2 H2 e2 S2 => ?_
        have eA := (e1.trans eL).trans e2
        exact P ρ2 H2 _ eA S2 ((R.ext eA).set (v := .ref h1.nx) (u := .ref D) ⟨D, rfl, e2.pre _ _ (new_at S1)⟩ k)
      · cases ce0
    · cases ct0
  · cases hck
theorem c_exS {e : ME} (i1 : Mot T (.e d e σ h v h1)) : Mot T (.s d (.ex e) σ h (.nx σ h1)) := by
  intro X c W st n ρ H τ D SC hck S R P
  cases n with
  | zero => exact nocs hck
  | succ n =>
  have hck : ckS T (ckSt T n) c (.ex e) st = true := hck
  simp only [ckS] at hck
  split at hck
  · rw [Bool.and_eq_true] at hck
    refine wS.of (ps_expr wE.pe (exline_ok hck.2 _ _)) ?_
    exact i1 X c _ fuel ρ H τ _ SC.ec hck.1 S R fun ρ1 H1 u e1 S1 r1 => P ρ1 H1 τ e1 S1 (R.ext e1)
  · cases hck
theorem c_exX {e : ME} {c0 : Nat} {fs : List (Nat × PV)} (i1 : Mot T (.x d e σ h c0 fs h1)) : Mot T (.s d (.ex e) σ h (.ex c0 fs σ h1)) := by
  intro X c W st n ρ H τ D SC hck S R P
  cases n with
  | zero => exact nocs hck
  | succ n =>
  have hck : ckS T (ckSt T n) c (.ex e) st = true := hck
  simp only [ckS] at hck
  split at hck
  · rw [Bool.and_eq_true] at hck
    refine wS.of (ps_expr wE.pe (exline_ok hck.2 _ _)) ?_
    exact i1 X c W _ fuel ρ H τ _ SC hck.1 S R fun ρ' H' dd C e' S' hC ex => P ρ' H' τ dd C e' S' (R.ext e') hC ex
  · cases hck
theorem c_ret {e : ME} (i1 : Mot T (.e d e σ h v h1)) : Mot T (.s d (.ret e) σ h (.rt v h1)) := by
  intro X c W st n ρ H τ D SC hck S R P
  cases n with
  | zero => exact nocs hck
  | succ n =>
  have hck : ckS T (ckSt T n) c (.ret e) st = true := hck
  simp only [ckS] at hck
  split at hck
  · refine wS.of (ps_ret wE.pe) ?_
    exact i1 X c _ fuel ρ H τ _ SC.ec hck S R P
  · cases hck
theorem c_retX {e : ME} {c0 : Nat} {fs : List (Nat × PV)} (i1 : Mot T (.x d e σ h c0 fs h1)) : Mot T (.s d (.ret e) σ h (.ex c0 fs σ h1)) := by
  intro X c W st n ρ H τ D SC hck S R P
  cases n with
  | zero => exact nocs hck
  | succ n =>
  have hck : ckS T (ckSt T n) c (.ret e) st = true := hck
  simp only [ckS] at hck
  split at hck
  · refine wS.of (ps_ret wE.pe) ?_
    exact i1 X c W _ fuel ρ H τ _ SC hck S R fun ρ' H' dd C e' S' hC ex => P ρ' H' τ dd C e' S' (R.ext e') hC ex
  · cases hck
theorem c_retN : Mot T (.s d .retN σ h (.rt .non h)) := by
  intro X c W st n ρ H τ D SC hck S R P
  cases n with
  | zero => exact nocs hck
  | succ n =>
  have hck : ckS T (ckSt T n) c .retN st = true := hck
  simp only [ckS] at hck
  split at hck
  · exact wS.of ps_retN (P ρ H _ (Ext.refl _ _) S rfl)
  · cases hck
theorem c_ifsT {c : ME} {sa sb : List MS} {f : Fl} (i1 : Mot T (.t d c σ h true h1)) (i2 : Mot T (.ss d sa σ h1 f)) : Mot T (.s d (.ifs c sa sb) σ h f) := by
  intro X cc W st n ρ H τ D SC hck S R P
  cases n with
  | zero => exact nocs hck
  | succ n =>
  have hck : ckS T (ckSt T n) cc (.ifs c sa sb) st = true := hck
  simp only [ckS] at hck
  split at hck
  · simp only [Bool.and_eq_true] at hck
    obtain ⟨⟨c1, c2⟩, c3⟩ := hck
    refine wS.of (ps_if wT.pt wSs.pss wSs.pss) ?_
    refine (i1 X cc _ fuel ρ H τ (fun b H1 => if b = true then wSs X _ D τ H1 else wSs X _ D τ H1) SC.ec c1 S R fun ρ1 H1 e1 S1 => ?_).1
    exact i2 X cc W _ n ρ1 H1 τ D SC c2 S1 (R.ext e1) (PostS.ext e1 P)
  · cases hck
theorem c_ifsF {c : ME} {sa sb : List MS} {f : Fl} (i1 : Mot T (.t d c σ h false h1)) (i2 : Mot T (.ss d sb σ h1 f)) : Mot T (.s d (.ifs c sa sb) σ h f) := by
  intro X cc W st n ρ H τ D SC hck S R P
  cases n with
  | zero => exact nocs hck
  | succ n =>
  have hck : ckS T (ckSt T n) cc (.ifs c sa sb) st = true := hck
  simp only [ckS] at hck
  split at hck
  · simp only [Bool.and_eq_true] at hck
    obtain ⟨⟨c1, c2⟩, c3⟩ := hck
    refine wS.of (ps_if wT.pt wSs.pss wSs.pss) ?_
    refine (i1 X cc _ fuel ρ H τ (fun b H1 => if b = true then wSs X _ D τ H1 else wSs X _ D τ H1) SC.ec c1 S R fun ρ1 H1 e1 S1 => ?_).1
    exact i2 X cc W _ n ρ1 H1 τ D SC c3 S1 (R.ext e1) (PostS.ext e1 P)
  · cases hck
theorem c_forS {t : MT} {it : MI} {bd : List MS} {r : IT} {f : Fl} (i1 : Mot T (.i d it σ h r h1)) (i2 : Mot T (.fo d t r 0 bd σ h1 f)) : Mot T (.s d (.for t it bd) σ h f) := by
  obtain ⟨m, i2⟩ := i2
  intro X cc W st n ρ H τ D SC hck S R P
  cases n with
  | zero => exact nocs hck
  | succ n =>
  have hck : ckS T (ckSt T n) cc (.for t it bd) st = true := hck
  simp only [ckS] at hck
  split at hck
  · simp only [Bool.and_eq_true] at hck
    obtain ⟨⟨⟨⟨htg, ct⟩, ci⟩, hns⟩, cb⟩ := hck
    refine wS.of (ps_for SC.po SC.ec.calm wI.pi wG.pg wSs.pss (fold_ok hns _)) ?_
    refine i1 X cc _ _ fuel ρ H τ _ SC.ec ci htg S R fun ρ1 H1 J e1 S1 w1 => ?_
    exact FoW.for X (i2 X cc W _ _ fuel n ρ1 H1 τ D J SC ct cb S1 (R.ext e1) w1 (PostS.ext e1 P))
  · cases hck
theorem c_whS {c : ME} {bd : List MS} {f : Fl} (i2 : Mot T (.wh d c bd σ h f)) : Mot T (.s d (.while c bd) σ h f) := by
  obtain ⟨m, i2⟩ := i2
  intro X cc W st n ρ H τ D SC hck S R P
  cases n with
  | zero => exact nocs hck
  | succ n =>
  have hck : ckS T (ckSt T n) cc (.while c bd) st = true := hck
  simp only [ckS] at hck
  split at hck
  · rw [Bool.and_eq_true] at hck
    refine wS.of (ps_while SC.po wT.pt wSs.pss) ?_
    exact WhW.while X (i2 X cc W _ _ fuel n ρ H τ D SC hck.1 hck.2 S R P)
  · cases hck
theorem zip_FR {K : PySem.W.Frag} {ρ : List Addr} {H : Hp} {nm : List Str} : ∀ {fl : List Nat} {vs : List PV} {us : List V}, (∀ i ∈ fl, ∃ x, nm[i]? = some x) → RVs K ρ H vs us → vs.length = fl.length → FR K nm ρ H (fl.zip vs) ((fl.map fun i => nm.getD i Str.empty).zip us)
  | [], [], us, _, r, _ => by cases r.nil_inv; exact .nil
  | [], _ :: _, us, _, r, hl => by cases hl
  | _ :: _, [], us, _, r, hl => by cases hl
  | i :: fl, v :: vs, us, hx, r, hl => by
    obtain ⟨u, t, rfl, r1, r2⟩ := r.inv
    obtain ⟨x, e⟩ := hx i (List.mem_cons_self ..)
    have e2 : nm.getD i Str.empty = x := by rw [List.getD_eq_getElem?_getD, e]; rfl
    refine .cons ⟨by show nm[i]? = some (nm.getD i Str.empty); rw [e2]; exact e, r1⟩ (zip_FR (fun j hj => hx j (List.mem_cons_of_mem _ hj)) r2 (Nat.succ.inj hl))
theorem c_raise {c : Nat} {C : Cl} {fl : List Nat} (hC : T.cls[c]? = some C) (hx : C.exc = some fl) (i1 : Mot T (.es (d + 2) as σ h vs h1)) (hl : vs.length = fl.length) : Mot T (.s (d + 2) (.raise c as) σ h (.ex c (fl.zip vs) σ h1)) := by
  intro X cc W st n ρ H τ D SC hck S R P
  have E := SC.ec
  cases n with
  | zero => exact nocs hck
  | succ n =>
  have hck : ckS T (ckSt T n) cc (.raise c as) st = true := hck
  simp only [ckS] at hck
  split at hck
  · rename_i cx _ _ _ _ _
    simp only [Bool.and_eq_true] at hck
    obtain ⟨⟨hg, hf⟩, ha⟩ := hck
    rw [hC] at hf
    simp only [Bool.and_eq_true, decide_eq_true_eq] at hf
    obtain ⟨hs, hb, _⟩ := args_ok ha
    have hg2 : glB ⟨X.N, X.env.scope, fun _ => true⟩ cx = true := by
      have := hg
      unfold glB at this ⊢
      rw [E.sc]
      exact this
    refine wS.of (ps_raise E.calm SC.tk (E.fa.ex c C fl hC hx X _ _ _ _ rfl rfl E.calm (E.room.mono (by omega)) hf.1.symm hg2 hs)) ?_
    refine i1 X cc _ fuel ρ H τ _ E hb hs S R fun ρ1 H1 us e1 S1 r1 => ⟨by rw [← r1.len]; exact hl, ?_⟩
    cases vs with
    | nil =>
      cases r1.nil_inv
      refine .inl ⟨rfl, P ρ1 H1 τ none C e1 S1 (R.ext e1) hC (.inl ⟨by simp, rfl⟩)⟩
    | cons v0 vr =>
      refine .inr ⟨inl_tup r1, fun dd hd => ?_⟩
      have ef := Ext.fresh (o := .xd ((fl.map fun i => T.nm.getD i Str.empty).zip us)) S1 hd
      have fr := zip_FR (E.fa.exf c C fl hC hx) r1 hl
      refine P ρ1 _ τ (some dd) C (e1.trans ef) (S1.fresh hd) (R.ext (e1.trans ef)) hC (.inr ⟨dd, _, rfl, S1.notin hd, FR.ext ef fr, upd_same⟩)
  · cases hck
theorem names_ok {c : CC} {X : Cx} (E : EC T c d X) {x : Str} {cn : Nat} {C : Cl} (hg : glB c x = true) (hC : T.cls[cn]? = some C) (hx : C.name = x) : Names X x (.ref (He.ga X.K C.name)) := by
  obtain ⟨g1, g2⟩ := gl_ok E hg
  exact ⟨g1, g2, .inl (by rw [← hx]; exact E.fa.cn cn C hC)⟩
theorem SC.tr {c : CC} {X : Cx} {W W' : WX} (s : SC T c d X W) {pn : List (Addr × Obj)} {xe : Value → Shared → Prop} (tk : Takes (X.tr pn xe) W') (po : PassesOwn (model X.prog X.w) X.A X.env xe) : SC T c d (X.tr pn xe) W' :=
  ⟨⟨s.ec.calm, s.ec.nd, s.ec.hN, s.ec.sc, s.ec.room, s.ec.fa, s.ec.fn⟩, s.hs, s.hf, tk, po, s.kd⟩
def tBody (X : Cx) (body : List Stmt) (W : WX) : TS := fun D σ H => ∀ (pn : List (Addr × Obj)) (xe : Value → Shared → Prop), Takes (X.tr pn xe) W → PassesOwn (model X.prog X.w) X.A X.env xe → wSs (X.tr pn xe) body D σ H
theorem tBody.pss {X : Cx} {body : List Stmt} {W : WX} {pn : List (Addr × Obj)} {xe : Value → Shared → Prop} (tk : Takes (X.tr pn xe) W) (po : PassesOwn (model X.prog X.w) X.A X.env xe) : PSs (X.tr pn xe) body (tBody X body W) :=
  ⟨fun pins s σ H D I h => h pn xe tk po pins s I⟩
/-- the suite of except -/
theorem suite_ok {su : List MS} {ss : List Stmt} (h : (match su, ss with
          | [.retN], [.Return none _] => true
          | [.ret (.cst v)], [.Return (some (.Constant q _ _)) _] => constB v q
          | _, _ => false) = true) : ∃ (b₀ : Stmt) (v : PV) (u : V), ss = [b₀] ∧ retOf su = some v ∧ (∀ K ρ H, RV K ρ H v u) ∧ ∀ X : Cx, PSs X [b₀] (fun D _ H => D.rt u H) := by
  split at h
  · exact ⟨_, .non, .non, rfl, rfl, fun _ _ _ => rfl, fun X => pss_one ps_retN⟩
  · rename_i v q _ _ _
    unfold constB at h
    split at h
    · exact ⟨_, .non, .non, rfl, rfl, fun _ _ _ => rfl, fun X => pss_one (ps_ret pe_non)⟩
    · rename_i bb cc
      have e := eq_of_beq h
      subst e
      exact ⟨_, .bl bb, .bl bb, rfl, rfl, fun _ _ _ => rfl, fun X => pss_one (ps_ret pe_bl)⟩
    · rename_i bb cc
      have e := of_decide_eq_true h
      subst e
      exact ⟨_, .int bb, .int bb, rfl, rfl, fun _ _ _ => rfl, fun X => pss_one (ps_ret pe_int)⟩
    · rename_i bb cc
      have e := of_decide_eq_true h
      subst e
      exact ⟨_, .str bb, .str bb, rfl, rfl, fun _ _ _ => rfl, fun X => pss_one (ps_ret pe_str)⟩
    · cases h
  · cases h
theorem c_try {bd su : List MS} {c : Nat} {f f2 : Fl} (i1 : Mot T (.ss d bd σ h f)) (hf : ((∀ c' fs σ h, f ≠ .ex c' fs σ h) ∧ f2 = f) ∨ ∃ fs σ1 h1 v, f = .ex c fs σ1 h1 ∧ retOf su = some v ∧ f2 = .rt v h1) : Mot T (.s d (.tryE bd c su) σ h f2) := by
  intro X cc W st n ρ H τ D SCx hck S R P
  have E := SCx.ec
  cases n with
  | zero => exact nocs hck
  | succ n =>
  have hck : ckS T (ckSt T n) cc (.tryE bd c su) st = true := hck
  simp only [ckS] at hck
  split at hck
  · simp only [Bool.and_eq_true] at hck
    obtain ⟨⟨⟨hg, hcl⟩, cb⟩, hsu⟩ := hck
    split at hcl
    · rename_i C hC
      rw [Bool.and_eq_true, decide_eq_true_eq] at hcl
      obtain ⟨b₀, v0, u0, rfl, hr, rv, hps⟩ := suite_ok hsu
      refine wS.of (ps_try_only (Wout := W) (tb := tBody X _) (ts := fun _ _ _ D _ H => D.rt u0 H) SCx.hs SCx.hf (names_ok E hg hC hcl.1) SCx.tk (fun W' pn xe tk po => tBody.pss tk po) (fun a oe cls dd pn _ _ => hps _)) ?_
      intro pn xe tk po
      refine i1 (X.tr pn xe) cc _ _ n ρ H τ D (SCx.tr tk po) cb S R ?_
      rcases hf with ⟨hne, rfl⟩ | ⟨fs, σ1, h1, v, rfl, hv, rfl⟩
      · cases f2 with
        | nx _ _ => exact P
        | rt _ _ => exact P
        | bk _ _ => exact P
        | ct _ _ => exact P
        | ex c' fs σ3 h3 => exact absurd rfl (hne c' fs σ3 h3)
      · rw [hr] at hv
        cases hv
        intro ρ' H' τ' dd C' e' S' R' hC' ex
        rw [hC] at hC'
        cases hC'
        exact ⟨true, E.fa.exm c C hC hcl.2, fun _ a _ => P ρ' H' u0 e' S' (rv _ _ _), fun z => by cases z⟩
    · cases hcl
  · cases hck
theorem c_pass : Mot T (.s d .pass σ h (.nx σ h)) := by
  intro X c W st n ρ H τ D SC hck S R P
  cases n with
  | zero => exact nocs hck
  | succ n =>
  have hck : ckS T (ckSt T n) c .pass st = true := hck
  simp only [ckS] at hck
  split at hck
  · exact wS.of ps_pass (P ρ H τ (Ext.refl _ _) S R)
  · exact wS.of ps_doc (P ρ H τ (Ext.refl _ _) S R)
  · cases hck
theorem c_brk : Mot T (.s d .brk σ h (.bk σ h)) := by
  intro X c W st n ρ H τ D SC hck S R P
  cases n with
  | zero => exact nocs hck
  | succ n =>
  have hck : ckS T (ckSt T n) c .brk st = true := hck
  simp only [ckS] at hck
  split at hck
  · exact wS.of ps_break (P ρ H τ (Ext.refl _ _) S R)
  · cases hck
theorem c_cont : Mot T (.s d .cont σ h (.ct σ h)) := by
  intro X c W st n ρ H τ D SC hck S R P
  cases n with
  | zero => exact nocs hck
  | succ n =>
  have hck : ckS T (ckSt T n) c .cont st = true := hck
  simp only [ckS] at hck
  split at hck
  · exact wS.of ps_continue (P ρ H τ (Ext.refl _ _) S R)
  · cases hck
theorem c_ssN : Mot T (.ss d [] σ h (.nx σ h)) := by
  intro X c W sts n ρ H τ D SC hck S R P
  rw [allB2_nil hck]
  exact wSs.of pss_nil (P ρ H τ (Ext.refl _ _) S R)
theorem c_ssC {s : MS} {ss : List MS} {f : Fl} (i1 : Mot T (.s d s σ h (.nx σ1 h1))) (i2 : Mot T (.ss d ss σ1 h1 f)) : Mot T (.ss d (s :: ss) σ h f) := by
  intro X c W sts n ρ H τ D SC hck S R P
  obtain ⟨e, r, rfl, c1, c2⟩ := allB2_cons hck
  refine wSs.of (pss_cons wS.ps wSs.pss) ?_
  exact i1 X c W e n ρ H τ _ SC c1 S R fun ρ1 H1 τ1 e1 S1 R1 => i2 X c W r n ρ1 H1 τ1 D SC c2 S1 R1 (PostS.ext e1 P)
theorem c_ssS {s : MS} {ss : List MS} {f : Fl} (i1 : Mot T (.s d s σ h f)) (hf : ∀ σ h, f ≠ .nx σ h) : Mot T (.ss d (s :: ss) σ h f) := by
  intro X c W sts n ρ H τ D SC hck S R P
  obtain ⟨e, r, rfl, c1, c2⟩ := allB2_cons hck
  refine wSs.of (pss_cons wS.ps wSs.pss) ?_
  refine i1 X c W e n ρ H τ _ SC c1 S R ?_
  cases f with
  | nx σ h => exact absurd rfl (hf σ h)
  | rt _ _ => exact P
  | bk _ _ => exact P
  | ct _ _ => exact P
  | ex _ _ _ _ => exact P
/-! ### loops -/
theorem c_foE {t : MT} {r : IT} {i n : Nat} {bd : List MS} (hl : r.len h = some n) (hi : n ≤ i) : Mot T (.fo d t r i bd σ h (.nx σ h)) :=
  ⟨0, fun X c W te st k k2 ρ H τ D J SC ct cb S R w P => .inl ⟨it_stop S w hl hi, P ρ H τ (Ext.refl _ _) S R⟩⟩
theorem c_foT {t : MT} {r : IT} {i : Nat} {bd : List MS} {f f1 : Fl} (hx : r.at h i = some x) (ig : Mot T (.g d t x σ h σ1 h1)) (ib : Mot T (.ss d bd σ1 h1 f1)) (hg : f1.go = some (σ2, h2)) (ir : Mot T (.fo d t r (i + 1) bd σ2 h2 f)) : Mot T (.fo d t r i bd σ h f) := by
  obtain ⟨m, ir⟩ := ir
  refine ⟨m + 1, fun X c W te st k k2 ρ H τ D J SC ct cb S R w P => .inr ?_⟩
  obtain ⟨go, yl⟩ := it_go S w hx
  refine ⟨go, fun u H' y => ?_⟩
  obtain ⟨e0, S0, ru⟩ := yl u H' y
  refine ig X c te k ρ H' τ u _ SC.ec ct S0 (R.ext e0) ru fun ρ2 H2 τ2 e2 S2 R2 _ => ?_
  refine ib X c W st k2 ρ2 H2 τ2 _ SC cb S2 R2 ?_
  have key : PostG T X.K ρ2 H2 σ2 h2 (FoW X te st J D m (i + 1)) := fun ρ3 H3 τ3 e3 S3 R3 =>
    ir X c W te st k k2 ρ3 H3 τ3 D J SC ct cb S3 R3 (w.ext ((e0.trans e2).trans e3)) (PostS.ext ((e0.trans e2).trans e3) P)
  cases f1 with
  | nx σ3 h3 => cases hg; exact key
  | ct σ3 h3 => cases hg; exact key
  | _ => cases hg
theorem c_foB {t : MT} {r : IT} {i : Nat} {bd : List MS} (hx : r.at h i = some x) (ig : Mot T (.g d t x σ h σ1 h1)) (ib : Mot T (.ss d bd σ1 h1 (.bk σ2 h2))) : Mot T (.fo d t r i bd σ h (.nx σ2 h2)) := by
  refine ⟨0, fun X c W te st k k2 ρ H τ D J SC ct cb S R w P => .inr ?_⟩
  obtain ⟨go, yl⟩ := it_go S w hx
  refine ⟨go, fun u H' y => ?_⟩
  obtain ⟨e0, S0, ru⟩ := yl u H' y
  refine ig X c te k ρ H' τ u _ SC.ec ct S0 (R.ext e0) ru fun ρ2 H2 τ2 e2 S2 R2 _ => ?_
  exact ib X c W st k2 ρ2 H2 τ2 _ SC cb S2 R2 (PostG.ext (e0.trans e2) P)
theorem c_foO {t : MT} {r : IT} {i : Nat} {bd : List MS} {f : Fl} (hx : r.at h i = some x) (ig : Mot T (.g d t x σ h σ1 h1)) (ib : Mot T (.ss d bd σ1 h1 f)) (hf : f.out = true) : Mot T (.fo d t r i bd σ h f) := by
  refine ⟨0, fun X c W te st k k2 ρ H τ D J SC ct cb S R w P => .inr ?_⟩
  obtain ⟨go, yl⟩ := it_go S w hx
  refine ⟨go, fun u H' y => ?_⟩
  obtain ⟨e0, S0, ru⟩ := yl u H' y
  refine ig X c te k ρ H' τ u _ SC.ec ct S0 (R.ext e0) ru fun ρ2 H2 τ2 e2 S2 R2 _ => ?_
  refine ib X c W st k2 ρ2 H2 τ2 _ SC cb S2 R2 ?_
  have P2 := PostS.ext (e0.trans e2) P
  cases f with
  | rt _ _ => exact P2
  | ex _ _ _ _ => exact P2
  | _ => cases hf
theorem c_whE {c : ME} {bd : List MS} (i1 : Mot T (.t d c σ h false h1)) : Mot T (.wh d c bd σ h (.nx σ h1)) :=
  ⟨0, fun X cc W ce st k k2 ρ H τ D SC c1 cb S R P => (i1 X cc ce k ρ H τ (fun b H1 => if b = true then wSs X st { D with nx := fun _ _ => False, ct := fun _ _ => False, bk := D.nx } τ H1 else D.nx τ H1) SC.ec c1 S R fun ρ1 H1 e1 S1 => P ρ1 H1 τ e1 S1 (R.ext e1)).1⟩
theorem c_whT {c : ME} {bd : List MS} {f f1 : Fl} (i1 : Mot T (.t d c σ h true h1)) (ib : Mot T (.ss d bd σ h1 f1)) (hg : f1.go = some (σ2, h2)) (ir : Mot T (.wh d c bd σ2 h2 f)) : Mot T (.wh d c bd σ h f) := by
  obtain ⟨m, ir⟩ := ir
  refine ⟨m + 1, fun X cc W ce st k k2 ρ H τ D SC c1 cb S R P => ?_⟩
  refine (i1 X cc ce k ρ H τ (fun b H1 => if b = true then wSs X st { D with nx := WhW X ce st D m, ct := WhW X ce st D m, bk := D.nx } τ H1 else D.nx τ H1) SC.ec c1 S R fun ρ1 H1 e1 S1 => ?_).1
  show wSs X st { D with nx := WhW X ce st D m, ct := WhW X ce st D m, bk := D.nx } τ H1
  refine ib X cc W st k2 ρ1 H1 τ _ SC cb S1 (R.ext e1) ?_
  have key : PostG T X.K ρ1 H1 σ2 h2 (WhW X ce st D m) := fun ρ3 H3 τ3 e3 S3 R3 =>
    ir X cc W ce st k k2 ρ3 H3 τ3 D SC c1 cb S3 R3 (PostS.ext (e1.trans e3) P)
  cases f1 with
  | nx σ3 h3 => cases hg; exact key
  | ct σ3 h3 => cases hg; exact key
  | _ => cases hg
theorem c_whB {c : ME} {bd : List MS} (i1 : Mot T (.t d c σ h true h1)) (ib : Mot T (.ss d bd σ h1 (.bk σ2 h2))) : Mot T (.wh d c bd σ h (.nx σ2 h2)) := by
  refine ⟨0, fun X cc W ce st k k2 ρ H τ D SC c1 cb S R P => ?_⟩
  refine (i1 X cc ce k ρ H τ (fun b H1 => if b = true then wSs X st { D with nx := fun _ _ => False, ct := fun _ _ => False, bk := D.nx } τ H1 else D.nx τ H1) SC.ec c1 S R fun ρ1 H1 e1 S1 => ?_).1
  show wSs X st { D with nx := fun _ _ => False, ct := fun _ _ => False, bk := D.nx } τ H1
  exact ib X cc W st k2 ρ1 H1 τ _ SC cb S1 (R.ext e1) (PostG.ext e1 P)
theorem c_whO {c : ME} {bd : List MS} {f : Fl} (i1 : Mot T (.t d c σ h true h1)) (ib : Mot T (.ss d bd σ h1 f)) (hf : f.out = true) : Mot T (.wh d c bd σ h f) := by
  refine ⟨0, fun X cc W ce st k k2 ρ H τ D SC c1 cb S R P => ?_⟩
  refine (i1 X cc ce k ρ H τ (fun b H1 => if b = true then wSs X st { D with nx := fun _ _ => False, ct := fun _ _ => False, bk := D.nx } τ H1 else D.nx τ H1) SC.ec c1 S R fun ρ1 H1 e1 S1 => ?_).1
  show wSs X st { D with nx := fun _ _ => False, ct := fun _ _ => False, bk := D.nx } τ H1
  refine ib X cc W st k2 ρ1 H1 τ _ SC cb S1 (R.ext e1) ?_
  have P2 := PostS.ext e1 P
  cases f with
  | rt _ _ => exact P2
  | ex _ _ _ _ => exact P2
  | _ => cases hf
/-! ### a def -/
theorem start_RS {K : PySem.W.Frag} {ρ : List Addr} {H : Hp} {N : List Str} {us : List V} (r : RVs K ρ H vs us) : RS K ρ H (vs.map some ++ List.replicate (N.length - vs.length) none) (L2.start N us) := by
  have l := r.len
  refine ⟨by unfold L2.start; simp [l], fun i w hw => ?_⟩
  by_cases hi : i < vs.length
  · rw [List.getElem?_append_left (by simpa using hi), List.getElem?_map] at hw
    cases e : vs[i]? with
    | none => rw [e] at hw; cases hw
    | some a =>
      rw [e] at hw
      have ea : a = w := Option.some.inj (Option.some.inj hw)
      subst ea
      obtain ⟨u, h1, h2⟩ := r.get e
      refine ⟨u, ?_, h2⟩
      unfold L2.start
      rw [List.getElem?_append_left (by simpa [← l] using hi), List.getElem?_map, h1]
      rfl
  · rw [List.getElem?_append_right (by simpa using hi), List.getElem?_replicate] at hw
    split at hw <;> cases hw
theorem c_cl {f : Nat} {F : Fn} {fl : Fl} {r : Res} (hF : T.fns[f]? = some F) (hl : vs.length = F.k) (ib : Mot T (.ss d F.body (vs.map some ++ List.replicate (F.N.length - vs.length) none) h fl)) (hr : fl.res = some r) : Mot T (.cl (d + 1) f vs h r) := by
  intro P w K mg base F' fa hF'
  rw [hF] at hF'
  cases hF'
  obtain ⟨_, _, hB, S, hk, hck⟩ := fa.fn f F hF
  have hlen : (F.N.take F.k).length = F.k := by rw [List.length_take]; omega
  refine ⟨hl, fun fd FD => FD.ok S (fun us H Q E hsp => by rw [hlen]; exact hsp.1) (fun cdv A outer s H us Q E hrm hsp => ⟨wSs _ _, wSs.pss, ?_⟩)⟩
  obtain ⟨_, ρ, S0, rv, pc⟩ := hsp
  refine ib _ ⟨F.N, defScope F.st, fun _ => true⟩ (fun cls dd _ H => E cls dd H) _ fuel ρ H _ _ ⟨⟨rfl, S.nd, rfl, rfl, hrm, fa, fun _ _ => rfl⟩, rfl, rfl, takes_of rfl rfl rfl rfl, passes_of rfl, S.kind⟩ hck S0 (start_RS rv) ?_
  cases fl with
  | nx σ1 h1 => cases hr; exact fun ρ' H' τ' e' S' _ => pc ρ' H' .non e' S' rfl
  | rt v1 h1 => cases hr; exact pc
  | ex c0 fs σ1 h1 => cases hr; exact fun ρ' H' τ' dd C e' S' _ hC ex => pc ρ' H' dd C e' S' hC ex
  | bk _ _ => cases hr
  | ct _ _ => cases hr
end
end Mp
namespace Mp
open PySem PySem.Spec L2
def EsLen : J → Prop
  | .es _ as _ _ vs _ => vs.length = as.length
  | _ => True
theorem es_len {T : Tab} {j : J} (b : BS T j) : EsLen j := by
  induction b with
  | esN => rfl
  | esC _ _ _ ih => exact congrArg Nat.succ ih
  | _ => exact True.intro
theorem sound {T : Tab} {j : J} (b : BS T j) : Mot T j := by
  induction b with
  | loc e => exact c_loc e
  | cst => exact c_cst
  | gv => exact c_gv
  | fld _ g hf hl i1 => exact c_fld i1 g hf hl
  | bin _ _ hb i1 i2 => exact c_bin i1 i2 hb
  | neg _ i1 => exact c_neg i1
  | notE _ i1 => exact c_not i1
  | andT _ _ i1 i2 => exact c_andT i1 i2
  | andF _ i1 => exact c_andF i1
  | orF _ _ i1 i2 => exact c_orF i1 i2
  | orT _ i1 => exact c_orT i1
  | cmp _ _ hb i1 i2 => exact c_cmp i1 i2 hb
  | dIn _ _ g hk i1 i2 => exact c_dIn i1 i2 g hk
  | dNotIn _ _ g hk i1 i2 => exact c_dNotIn i1 i2 g hk
  | call _ _ i1 i2 => exact c_call i1 i2
  | xcall _ _ i1 i2 => exact c_xcall i1 i2
  | make _ hm _ i1 i2 => exact c_make i1 hm i2
  | meth _ g hm hl _ _ i1 i2 i3 => exact c_meth i1 g hm hl i2 i3
  | bf _ hb i1 => exact c_bf i1 hb
  | bm _ ht _ hb i1 i2 => exact c_bm i1 ht i2 hb
  | lenset _ hn i1 => exact c_lenset i1 hn
  | lrg _ l1 l2 i1 => exact c_lrg i1 l1 l2
  | lrg2 _ _ k1 k2 l1 l2 i1 i2 => exact c_lrg2 i1 i2 k1 k2 l1 l2
  | lenO _ g hm _ h0 h1 i1 i2 => exact c_lenO i1 g hm i2 h0 h1
  | sub _ _ hv i1 i2 => exact c_sub i1 i2 hv
  | subD _ _ g hk hv i1 i2 => exact c_subD i1 i2 g hk hv
  | subO _ _ g hm _ i1 i2 i3 => exact c_subO i1 i2 g hm i3
  | revL _ g i1 => exact c_revL i1 g
  | tup b i1 => exact c_tup (es_len b) i1
  | lst b i1 => exact c_lst (es_len b) i1
  | ifT _ _ i1 i2 => exact c_ifT i1 i2
  | ifF _ _ i1 i2 => exact c_ifF i1 i2
  | lcomp _ _ i1 i2 => exact c_lcomp i1 i2
  | lcomp2 _ _ i1 i2 => exact c_lcomp2 i1 i2
  | dcomp _ _ i1 i2 => exact c_dcomp i1 i2
  | esN => exact c_esN
  | esC _ _ i1 i2 => exact c_esC i1 i2
  | tN _ i1 => exact c_tN i1
  | tAndT _ _ i1 i2 => exact c_tAndT i1 i2
  | tAndF _ i1 => exact c_tAndF i1
  | tOrF _ _ i1 i2 => exact c_tOrF i1 i2
  | tOrT _ i1 => exact c_tOrT i1
  | tCmp _ _ hb i1 i2 => exact c_tCmp i1 i2 hb
  | tDIn _ _ g hk i1 i2 => exact c_tDIn i1 i2 g hk
  | tDNotIn _ _ g hk i1 i2 => exact c_tDNotIn i1 i2 g hk
  | tV hp _ ht i1 => exact c_tV hp i1 ht
  | tsN => exact c_tsN
  | ts1 _ i1 => exact c_ts1 i1
  | iL _ g i1 => exact c_iL i1 g
  | iT _ i1 => exact c_iT i1
  | iR1 _ l1 l2 i1 => exact c_iR1 i1 l1 l2
  | iR2 _ _ k1 k2 l1 l2 i1 i2 => exact c_iR2 i1 i2 k1 k2 l1 l2
  | iE _ g i1 => exact c_iE i1 g
  | gN => exact c_gN
  | gT hl _ i1 => exact c_gT hl i1
  | gA _ g hf hl i1 => exact c_gA i1 g hf hl
  | gI _ _ hs i1 i2 => exact c_gI i1 i2 hs
  | gsN => exact c_gsN
  | gsC _ _ i1 i2 => exact c_gsC i1 i2
  | cpE hl hi => exact c_cpE hl hi
  | cpT hx _ _ _ g hb _ i1 i2 i3 i4 => exact c_cpT hx i1 i2 i3 g hb i4
  | cpF hx _ _ _ i1 i2 i3 => exact c_cpF hx i1 i2 i3
  | dpE hl hi => exact c_dpE hl hi
  | dpT hx _ _ _ hk _ g hb _ i1 i2 i3 i4 i5 => exact c_dpT hx i1 i2 i3 hk i4 g hb i5
  | cqE hl hi => exact c_cqE hl hi
  | cqT hx _ _ _ _ _ i1 i2 i3 i4 i5 => exact c_cqT hx i1 i2 i3 i4 i5
  | cqF hx _ _ _ i1 i2 i3 => exact c_cqF hx i1 i2 i3
  | asg hp _ _ i1 i2 => exact c_asg hp i1 i2
  | asgX _ i1 => exact c_asgX i1
  | asgL _ _ i1 i2 => exact c_asgL i1 i2
  | asgL2 _ _ i1 i2 => exact c_asgL2 i1 i2
  | exS _ i1 => exact c_exS i1
  | exX _ i1 => exact c_exX i1
  | ret _ i1 => exact c_ret i1
  | retX _ i1 => exact c_retX i1
  | retN => exact c_retN
  | ifsT _ _ i1 i2 => exact c_ifsT i1 i2
  | ifsF _ _ i1 i2 => exact c_ifsF i1 i2
  | forS _ _ i1 i2 => exact c_forS i1 i2
  | whS _ i1 => exact c_whS i1
  | raise hC hx _ hl i1 => exact c_raise hC hx i1 hl
  | tryK _ hne i1 => exact c_try i1 (.inl ⟨hne, rfl⟩)
  | tryC _ hv i1 => exact c_try i1 (.inr ⟨_, _, _, _, rfl, hv, rfl⟩)
  | pass => exact c_pass
  | brk => exact c_brk
  | cont => exact c_cont
  | ssN => exact c_ssN
  | ssC _ _ i1 i2 => exact c_ssC i1 i2
  | ssS _ hf i1 => exact c_ssS i1 hf
  | foE hl hi => exact c_foE hl hi
  | foT hx _ _ hg _ i1 i2 i3 => exact c_foT hx i1 i2 hg i3
  | foB hx _ _ i1 i2 => exact c_foB hx i1 i2
  | foO hx _ _ hf i1 i2 => exact c_foO hx i1 i2 hf
  | whE _ i1 => exact c_whE i1
  | whT _ _ hg _ i1 i2 i3 => exact c_whT i1 i2 hg i3
  | whB _ _ i1 i2 => exact c_whB i1 i2
  | whO _ _ hf i1 i2 => exact c_whO i1 i2 hf
  | cl hF hl _ hr i1 => exact c_cl hF hl i1 hr
end Mp
namespace Mp
open PySem PySem.Spec L2
/-! ### own exceptions whose __init__ tells a text to the base's __init__ -/
def veId : String := "ValueError.__init__"
def oexB (K : PySem.W.Frag) (C : Addr) : Bool := (match K.lookup C with
  | some ⟨.type "type", _, .cls cd, sl⟩ => (match cd.mro, sl.toList with
    | .ref C' :: bm, [_, _, _, _, some (.builtin n), _] => C' == C && n == "ValueError.__new__" && !cd.hasDel && cd.hasDict && PySem.HandSPX.refsVE bm
    | _, _ => false)
  | _ => false) && decide (PySem.W.findIn K (.ref C) "__setattr__" = some (some (.builtin "object.__setattr__"))) && decide (PySem.W.subIn K (.ref C) (.type "BaseException") = some true) &&
  decide (PySem.W.typeIn K (.ref C) = some (.type "type")) && PySem.W.keepIn K (.ref C)
theorem oex_ok {K : PySem.W.Frag} {C : Addr} (q : oexB K C = true) : OexC K C := by
  unfold oexB at q
  simp only [Bool.and_eq_true, decide_eq_true_eq] at q
  obtain ⟨⟨⟨⟨q, q2⟩, q3⟩, q4⟩, q5⟩ := q
  refine ⟨?_, q2, q3, q4, q5⟩
  split at q
  · rename_i od cd sl ho
    split at q
    · rename_i C' bm k0 k1 k2 k3 n k5 hm hs
      simp only [Bool.and_eq_true, beq_iff_eq, Bool.not_eq_true'] at q
      obtain ⟨⟨⟨⟨e1, e2⟩, e3⟩, e4⟩, e5⟩ := q
      subst e1 e2
      obtain ⟨nm, bs, mro, ns, qn, hd, sn, sub, ab, col, del⟩ := cd
      dsimp only at hm e3 e4
      subst hm e3 e4
      have hsl : sl = #[k0, k1, k2, k3, some (.builtin "ValueError.__new__"), k5] := by
        obtain ⟨l⟩ := sl
        exact congrArg Array.mk hs
      subst hsl
      exact ⟨nm, qn, ns, bs, bm, sn, sub, ab, col, od, k0, k1, k2, k3, k5, ho, e5⟩
    · cases q
  · cases q
/-- what else an exception's row says: its base by name -/
def exB (K : PySem.W.Frag) (base x : Str) : Bool := oexB K (He.ga K x) && (decide (PySem.W.specialIn K (.ref (He.ga K base)) "__getattribute__" = some (some (.builtin "type.__getattribute__"))) &&
  (PySem.W.readsIn K (He.ga K base) (.type "type") && ((match PySem.W.findCls K (.ref (He.ga K base)) (.type "type") "__init__" with
    | some (.val (.builtin n)) => n == veId
    | _ => false) && (decide (PySem.W.findIn K (.ref (He.ga K x)) "__init__" = some (some (.ref (He.ma K (He.ga K x) "__init__")))) && decide (PySem.W.typeIn K (.ref (He.ma K (He.ga K x) "__init__")) = some (.type "function"))))))
structure ExFa (K : PySem.W.Frag) (base x : Str) : Prop where
  oex : OexC K (He.ga K x)
  ga : PySem.W.specialIn K (.ref (He.ga K base)) "__getattribute__" = some (some (.builtin "type.__getattribute__"))
  rd : PySem.W.readsIn K (He.ga K base) (.type "type") = true
  fc : PySem.W.findCls K (.ref (He.ga K base)) (.type "type") "__init__" = some (.val (.builtin veId))
  fi : PySem.W.findIn K (.ref (He.ga K x)) "__init__" = some (some (.ref (He.ma K (He.ga K x) "__init__")))
  ty : PySem.W.typeIn K (.ref (He.ma K (He.ga K x) "__init__")) = some (.type "function")
theorem exfa_ok {K : PySem.W.Frag} {base x : Str} (q : exB K base x = true) : ExFa K base x := by
  unfold exB at q
  simp only [Bool.and_eq_true, decide_eq_true_eq] at q
  obtain ⟨q1, q2, q3, q4, q5, q6⟩ := q
  refine ⟨oex_ok q1, q2, q3, ?_, q5, q6⟩
  split at q4
  · rename_i e
    rw [e, beq_iff_eq.mp q4]
  · cases q4
section
variable {X : Cx} {τ : St} {H : Hp} {Q : VK}
/-- base.__init__(self, ..) -/
theorem exinit_gen {base x : Str} {p1 p2 pos : Pos} {es : List Expr} {C : Addr} (fa : ExFa X.K base x) (hg : Gl X base) (hm : X.mg base = some (.ref (He.ga X.K base))) (hdb : (base == ("__debug__" : Str)) = false) (hl : (p2.endLine == pos.line) = true) (hs : es.all noStar1 = true) (hn : Nat.blt es.length 20 = true)
    (T : OexC X.K C) (h : wA X es τ H fun vs H1 => ∃ (a : Addr) (ws : List V), vs = .ref a :: ws ∧ ws.length ≤ 1000 ∧ H1 a = some (exo a C none) ∧ Q .non H1) :
    wE X (.Call (.Attribute (.Name base p1) "__init__" p2) es [] pos) τ H Q := by
  intro pins s I
  refine PySem.W.methodCall_KW (ld_glob I hg hm ?_ hdb) (meth_form rfl hl hs hn)
  refine PySem.W.method_cls I.kIn fa.ga (PySem.W.cls_value I.kIn fa.rd fa.fc (by decide +kernel) ?_)
  refine Calls.callWith_builtin (star_all hs pos X.env).1 (evalArgs_any hs (thn (h pos pins _ (I.tok _)) fun us s1 ⟨vs, H1, I1, r1, a, ws, ev, hw, ea, q⟩ => ?_))
  subst ev
  cases r1 with
  | @cons _ u0 _ ur ra rw' =>
    obtain rfl : u0 = Value.ref a := ra
    have hlen := rw'.length
    exact oinit_ok T I1 ea (by rw [sizeLine_eq]; omega) fun s' J => ⟨.non, H1, J, rfl, q⟩
/-- an exception with no dict is let go -/
theorem mk_end1 {pins : List (Addr × Obj)} {σ : St} {Q : XK} {g1 h1 h2 : Heap} {gs gs2 : Array GenState} {dr dr2 : Drawn} {t1 t2 : Nat} {os os2 : OsState} {a C : Addr} (T : Raises X (.ref C)) (I1 : Inv X pins σ H ⟨g1, gs, dr, t1, os⟩) (ha : g1.objs.size ≤ a)
    (k : ∀ b o, g1.get? b = some o → h1.get? b = some o) (un : Un (frs X.stack) [] (upd H a (exo a C none)) (upd H a (exo a C none)) h1 h2) (hok : HOk X.prog X.w (upd H a (exo a C none)) h2) (ho : os2 = os) (hb : PyProof.Rows.AllBare gs2) (q : Q (.ref C) none H) :
    MkP X pins σ Q (.ref a) ⟨h2, gs2, dr2, t2, os2⟩ := by
  obtain ⟨tt, hobj⟩ := exo_at hok upd_same
  have na : H a = none := I1.hok.fresh ha
  obtain ⟨G, e1, e2⟩ := restrict h2 fun b => decide (b ≠ a)
  have gk : ∀ b, b ≠ a → G.get? b = h2.get? b := fun b z => e1 b (decide_eq_true z)
  have ga : G.get? a = none := e2 a (by simp)
  have lt : ∀ {b : Addr} {o : Obj}, g1.get? b = some o → b ≠ a := fun {b o} z => Nat.ne_of_lt (Nat.lt_of_lt_of_le (Heap.lt_size z) ha)
  have nn : ∀ {b : Addr}, b ≠ a → H b = none → upd H a (exo a C none) b = none := fun {b} z n => (upd_ne z).trans n
  have U : Un (frs X.stack) [] H H g1 G :=
    ⟨fun b o z n hf hx => (gk b (lt z)).trans (un.keep b o (k b o z) (nn (lt z) n) hf hx), fun b o z n hf hx => (un.slot b o (k b o z) (nn (lt z) n) hf hx).imp fun sl e => (gk b (lt z)).trans e, fun _ _ _ n _ => n,
      fun b o z hx => (un.there b o (k b o z) hx).imp fun o' e => (gk b (lt z)).trans e, fun _ _ z => z, fun _ _ _ z => z, fun _ ps z => ⟨#[], by simpa using z⟩⟩
  have hokG : HOk X.prog X.w H G := fun b o z => by
    have hba : b ≠ a := fun w => by rw [w, na] at z; cases z
    have z2 : upd H a (exo a C none) b = some o := (upd_ne hba).trans z
    have notA : ∀ {c : Addr}, upd H a (exo a C none) c = some (.own b) → c ≠ a := fun {c} y w => by
      rw [w, upd_same] at y
      exact exo_own (Option.some.inj y)
    refine (hok b o z2).stay (fun c v hc y => ?_) (fun c hc => ?_) fun c xs hc => ?_
    · have hca : c ≠ a := by
        rcases hc with w | w
        · exact fun v => hba (w.symm.trans v)
        · exact notA w
      exact (gk c hca).trans y
    · have hca := notA hc
      rw [upd_ne hca] at hc
      exact hc
    · have hca : c ≠ a := fun w => by
        rw [w, upd_same] at hc
        exact exo_tup (Option.some.inj hc)
      rw [upd_ne hca] at hc
      exact hc
  have J : Inv X pins σ H ⟨G, gs2, dr2, t2, os2⟩ := I1.call' (ch := []) ho U hokG hb fun b z => absurd z (by simp)
  refine ⟨a, _, _, ⟨G, gs2, dr2, t2, os2⟩, H, .ref C, none, rfl, J, fun b o z => ?_, ga, hobj, ⟨rfl, rfl⟩, rfl, rfl, na, rfl, hb, T, q⟩
  by_cases hba : b = a
  · rw [hba, ga] at z; cases z
  · exact (gk b hba).symm.trans z
/-- what such an __init__ keeps -/
def spX0 (C : Addr) : Sp := fun vs H Q _ => ∃ a, vs = [.ref a] ∧ H a = some (exo a C none) ∧ Q .non H
theorem ex_make {x : Str} {p pos : Pos} {es : List Expr} {C fI : Addr} {k : Nat} {fd : FuncData} {ps : List Str} (T : OexC X.K C) (iC : PySem.W.findIn X.K (.ref C) "__init__" = some (some (.ref fI))) (tI : PySem.W.typeIn X.K (.ref fI) = some (.type "function"))
    (F1 : FnOk X.prog X.w X.K X.mg X.base (L2.CX X.prog X.w) k fI fd ps (spX0 C)) (hr : Room (k + 1) X.A) (hb : Binds X.K fd ps []) (hg : Gl X x) (hm : X.mg x = some (.ref C)) (hdb : (x == ("__debug__" : Str)) = false) (hs : es.all noStar1 = true) {Q : XK}
    (h : wA X es τ H fun vs H1 => vs = [] ∧ Q (.ref C) none H1) (pins : List (Addr × Obj)) (s : Shared) (I : Inv X pins τ H s) : wpAny (model X.prog X.w) X.A (eval (.Call (.Name x p) es [] pos) X.env) (MkP X pins τ Q) X.xe s := by
  obtain ⟨nm, q, N, bs, bm, sn, sub, ab, col, dd, k0, k1, k2, k3, k5, hC, hbm⟩ := T.cls
  refine wpAny_Call_Name_kw (ld_glob I hg hm ?_ hdb)
  refine callWith_any hs T.kC (thn (h pos pins s I) fun us s1 ⟨vs, H1, I1, r1, ev, q1⟩ => ⟨I1.kIn, ?_⟩)
  subst ev
  cases r1
  obtain ⟨hp, g, dr, tk, os⟩ := s1
  have hsz : hp.objs.size ≤ hp.objs.size + 1 := Nat.le_succ _
  have hn : H1 (hp.objs.size + 1) = none := I1.hok.fresh hsz
  have kk : ∀ b o, hp.get? b = some o → ((hp.push (PySem.W.kdv_tup [])).push (PySem.HandSPX.excO C hp.objs.size)).get? b = some o := fun b o e => Heap.get?_push_of_some _ (Heap.get?_push_of_some _ e)
  have hget : ((hp.push (PySem.W.kdv_tup [])).push (PySem.HandSPX.excO C hp.objs.size)).get? (hp.objs.size + 1) = some (PySem.HandSPX.excO C hp.objs.size) := by heap_get
  have I2 := I1.laid (t' := tk) (a := hp.objs.size + 1) (o := exo (hp.objs.size + 1) C none) kk hsz (exo_ok hget)
  have hsp : spX0 C [.ref (hp.objs.size + 1)] (upd H1 (hp.objs.size + 1) (exo (hp.objs.size + 1) C none)) (fun v H2 => v = .non ∧ H2 = upd H1 (hp.objs.size + 1) (exo (hp.objs.size + 1) C none)) (fun _ _ _ => False) := ⟨_, rfl, upd_same, rfl, rfl⟩
  have r2 : Vals [V.ref (hp.objs.size + 1)] [Value.ref (hp.objs.size + 1)] := .cons rfl .nil
  have hl : [Value.ref (hp.objs.size + 1)].length = ps.length := F1.len _ _ _ _ hsp
  have hB := hb _ [Value.ref (hp.objs.size + 1)] I2.kIn hl
  refine wpAny_call (PySem.HandSPX.call_own F.excBase_ValueError (fun Y => PySem.HandSPX.refsVE_contains Y bm hbm) (I1.kIn _ _ hC) (PySem.W.looks_findIn I1.kIn iC) (fun self => PySem.W.bind_fn I1.kIn self tI) (Nat.zero_le _)
    (codeAny_mono (F1.run _ X.stack _ _ ⟨[Value.ref (hp.objs.size + 1)], []⟩ [Value.ref (hp.objs.size + 1)] _ _ (fun _ _ _ => False) (hr.make C [] []) (I2.env0.make C [] []) hB r2 hsp) fun r s' hq' => ?_))
  cases r with
  | error er => obtain ⟨_, _, _, _, _, _, _, _, _, _, _, _, z⟩ := hq'; exact z.elim
  | ok fl =>
    cases fl with
    | ret u =>
      obtain ⟨v, H2, os2, bare2, un2, hok2, rv, ev, eH⟩ := hq'
      subst ev eH
      obtain ⟨h2, g2, d2, t2, os'⟩ := s'
      exact ⟨rv, mk_end1 (raises_own T.exC T.tyC) I1 hsz kk un2 hok2 os2 bare2 q1⟩
    | next => exact False.elim hq'
    | brk => exact False.elim hq'
    | cont => exact False.elim hq'
end
end Mp
namespace Mp
open PySem PySem.Spec L2
/-! ### a row: the table, the exceptions -/
structure ExT where
  c : Nat
  base : Str
  fn : Fn
def atOf (F : Fn) : Str × Option Str := match F.cls with
  | none => (F.name, none)
  | some C => (C, some F.name)
theorem fAd_at (K : PySem.W.Frag) (F : Fn) : He.fAd K (atOf F) = fAd K F := by
  unfold atOf fAd He.fAd
  cases F.cls <;> rfl
def ddOf (F : Fn) : He.DefD := ⟨atOf F, F.name, F.qual, defArgs F.st, defBody F.st, defScope F.st, [], []⟩
def faCl (nm : List Str) (C : Cl) : List He.Fa := .glo C.name :: match C.exc with
  | some _ => [.exm C.name C.name true]
  | none => .cls C.name :: ((if (C.ms.lookup 0).isSome then [.mkr C.name] else []) ++ (C.ms.map (fun p => .meth C.name (nm.getD p.1 Str.empty)) ++ C.fl.map fun f => .noat C.name (nm.getD f Str.empty)))
def faT (T : Tab) (exs : List ExT) : List He.Fa := bltNames.map .free ++ (T.fns.filterMap (fun F => if F.cls.isNone then some (.glo F.name) else none) ++ (T.cls.flatMap (faCl T.nm) ++ exs.map fun e => .glo e.base))
def fnT (T : Tab) (exs : List ExT) : List He.DefD := T.fns.map ddOf ++ exs.map fun e => ddOf e.fn
def bxT (T : Tab) (exs : List ExT) (K : PySem.W.Frag) : Bool := exs.all fun e => match T.cls[e.c]? with
  | some C => exB K e.base C.name
  | none => false
/-! ### the hook -/
abbrev AlM : Type := Bool × He.AlD
def obsM (T : Tab) (exs : List ExT) (K : PySem.W.Frag) : AlM := (bxT T exs K, He.obsD (faT T exs) (fnT T exs) K)
def SaysM (T : Tab) (exs : List ExT) (K : PySem.W.Frag) : Prop := obsM T exs K = (true, He.valD (fnT T exs))
def obsMG (T : Tab) (exs : List ExT) (n : Nat) (g : Addr → Option Obj) : AlM := obsM T exs (He.frG g (cStatics :: He.asD g n))
def hookM (T : Tab) (exs : List ExT) (n : Nat) : PySem.W.Hook where
  α := AlM
  obs := fun s => obsMG T exs n s.heap.get?
  val := fun _ => (true, He.valD (fnT T exs))
  says := fun _ h => ∃ K : PySem.W.Frag, K.In h ∧ SaysM T exs K
  of := fun _ _ e => ⟨_, He.frG_in, e⟩
  keeps := fun _ _ _ ⟨K, hK, c⟩ k => ⟨K, PySem.W.Frag.In.keeps hK k, c⟩
def obM (T : Tab) (exs : List ExT) (n : Nat) (s : PySem.W.SharedT) : AlM := obsMG T exs n (HandSHeadRun.getT s)
theorem obM_eq (T : Tab) (exs : List ExT) (n : Nat) (s : PySem.W.SharedT) : obM T exs n s = (hookM T exs n).obs s.abs := by
  have e : HandSHeadRun.getT s = s.abs.heap.get? := funext (HandSHeadRun.getT_eq s)
  show obsMG T exs n (HandSHeadRun.getT s) = obsMG T exs n s.abs.heap.get?
  rw [e]
/-! ### what is checked of the text -/
def scB (F : Fn) : Bool := let sc := defScope F.st
  (match sc.kind with | .function => true | _ => false) && !sc.isCoroutine && !sc.isGenerator && decide F.N.Nodup && Nat.ble F.k F.N.length &&
  ((F.N.take F.k).all fun x => match sc.names.lookup x with | some .local => true | some .cell => true | _ => false) && sc.names.all fun y => match y.2 with | .free => false | _ => true
theorem sc_ok {F : Fn} (h : scB F = true) : FnScope F.N (F.N.take F.k) (defScope F.st) ∧ F.k ≤ F.N.length := by
  unfold scB at h
  simp only [Bool.and_eq_true, Bool.not_eq_true', decide_eq_true_eq] at h
  obtain ⟨⟨⟨⟨⟨⟨h1, h2⟩, h3⟩, h4⟩, h5⟩, h6⟩, h7⟩ := h
  have hk : F.k ≤ F.N.length := Nat.le_of_ble_eq_true h5
  refine ⟨⟨?_, h2, h3, h4, ?_, fun x hx => ?_, fun y hy => ?_⟩, hk⟩
  · split at h1
    · assumption
    · cases h1
  · rw [List.length_take, Nat.min_eq_left hk]
  · have q := List.all_eq_true.mp h6 x hx
    split at q
    · exact .inl (by assumption)
    · exact .inr (by assumption)
    · cases q
  · have q := List.all_eq_true.mp h7 y hy
    intro z
    rw [z] at q
    cases q
def fnB (T : Tab) (F : Fn) : Bool := scB F && allB2 ((ckSt T fuel).s ⟨F.N, defScope F.st, fun _ => true⟩) F.body (defBody F.st)
def msB (T : Tab) (C : Cl) (p : Nat × Nat) : Bool := match T.fns[p.2]?, T.nm[p.1]? with
  | some F, some x => decide (F.cls = some C.name) && decide (F.name = x)
  | _, _ => false
/-- base.__init__(self, '..') is all that it does -/
def exBody (base : Str) : List Stmt → Bool
  | [.Expr (.Call (.Attribute (.Name b _) m p2) [.Name s _, .Constant (.str _) _ _] [] pos) _] => decide (b = base) && decide (m = ("__init__" : Str)) && decide (s = ("self" : Str)) && (p2.endLine == pos.line)
  | _ => false
def exT1 (T : Tab) (e : ExT) : Bool := match T.cls[e.c]? with
  | some C => decide (e.fn.cls = some C.name) && decide (e.fn.name = ("__init__" : Str)) && decide (C.exc = some []) && exBody e.base (defBody e.fn.st) && decide (e.fn.N = [("self" : Str)]) && decide (e.fn.k = 1) && scB e.fn &&
      decide ((defScope e.fn.st).names.lookup ("self" : Str) = some .local) && decide ((defScope e.fn.st).names.lookup e.base = some .globalImplicit) && okName e.base
  | none => false
def clB (T : Tab) (exs : List ExT) (c : Nat) (C : Cl) : Bool := match C.exc with
  | some _ => exs.any fun e => decide (e.c = c)
  | none => (C.ms.all (msB T C)) && C.fl.all fun f => (T.nm[f]?).isSome
def enumB (f : Nat → Cl → Bool) : Nat → List Cl → Bool
  | _, [] => true
  | i, C :: r => f i C && enumB f (i + 1) r
theorem enumB_at {f : Nat → Cl → Bool} : ∀ {l : List Cl} {i j : Nat} {C : Cl}, enumB f i l = true → l[j]? = some C → f (i + j) C = true
  | [], _, _, _, _, e => by simp at e
  | D :: r, i, 0, C, h, e => by
    unfold enumB at h
    rw [Bool.and_eq_true] at h
    simp at e
    subst e
    exact h.1
  | D :: r, i, j + 1, C, h, e => by
    unfold enumB at h
    rw [Bool.and_eq_true] at h
    have := enumB_at (i := i + 1) (j := j) h.2 (by simpa using e)
    rw [show i + (j + 1) = i + 1 + j by omega]
    exact this
def tabB (T : Tab) (exs : List ExT) : Bool := T.fns.all (fnB T) && decide T.nm.Nodup && enumB (clB T exs) 0 T.cls && exs.all (exT1 T) && decide (T.nm[0]? = some ("__init__" : Str)) && decide (T.nm[4]? = some ("__len__" : Str)) && decide (T.nm[5]? = some ("__getitem__" : Str))
/-- the parameters are bound in their order -/
def BindOk (F : Fn) : Prop := ∀ (kV doc pm : Value) (an : Option Addr) (cdv ct : Value) (us : List Value), us.length = (F.N.take F.k).length → bindArgs (PySem.W.fnOf F.name F.qual (defArgs F.st) (defBody F.st) (defScope F.st) .none kV doc pm an cdv ct) ⟨us, []⟩ = pure ((F.N.take F.k).zip us)
inductive AllF : List Fn → Prop where
  | nil : AllF []
  | cons {F : Fn} {r : List Fn} (h : BindOk F) (t : AllF r) : AllF (F :: r)
theorem AllF.mem {l : List Fn} (a : AllF l) : ∀ F ∈ l, BindOk F := by
  induction a with
  | nil => intro F h; cases h
  | cons h t ih =>
    intro F m
    rcases List.mem_cons.mp m with rfl | m
    · exact h
    · exact ih F m
section
variable {T : Tab} {exs : List ExT} {K : PySem.W.Frag} {mg : Str → Option Value} {h : Heap}
theorem says_fact (c : SaysM T exs K) {f : He.Fa} (hf : f ∈ faT T exs) : f.ok K = true := by
  have c2 : He.obsD (faT T exs) (fnT T exs) K = He.valD (fnT T exs) := congrArg (fun z : AlM => z.2) c
  obtain ⟨i, hi⟩ := List.getElem?_of_mem hf
  exact He.SaysD.fact c2 i hi
theorem says_def (c : SaysM T exs K) {F : Fn} (hf : ddOf F ∈ fnT T exs) : ∃ fd, FunD K F.name F.qual (defArgs F.st) (defBody F.st) (defScope F.st) [] [] (fAd K F) fd := by
  have c2 : He.obsD (faT T exs) (fnT T exs) K = He.valD (fnT T exs) := congrArg (fun z : AlM => z.2) c
  obtain ⟨i, hi⟩ := List.getElem?_of_mem hf
  obtain ⟨fd, q⟩ := He.SaysD.def_ c2 i hi
  refine ⟨fd, ?_⟩
  have q2 : FunD K F.name F.qual (defArgs F.st) (defBody F.st) (defScope F.st) [] [] (He.fAd K (atOf F)) fd := q
  rw [fAd_at] at q2
  exact q2
theorem mem_look {α : Type} : ∀ {l : List (Nat × α)} {m : Nat} {f : α}, l.lookup m = some f → (m, f) ∈ l
  | [], _, _, e => by cases e
  | (a, b) :: r, m, f, e => by
    rw [List.lookup_cons] at e
    by_cases hq : m = a
    · subst hq
      simp at e
      subst e
      exact List.mem_cons_self ..
    · have hne : (m == a) = false := beq_eq_false_iff_ne.mpr hq
      rw [hne] at e
      exact List.mem_cons_of_mem _ (mem_look e)
theorem mem_l {α : Type} {x : α} {a b : List α} (h : x ∈ a) : x ∈ a ++ b := List.mem_append_left _ h
theorem mem_r {α : Type} {x : α} {a b : List α} (h : x ∈ b) : x ∈ a ++ b := List.mem_append_right _ h
theorem fnd_fnIn {x q : Str} {pa : Arguments} {bd : List Stmt} {sc : Scope} {f : Addr} {fd : FuncData} (F : FunD K x q pa bd sc [] [] f fd) : PySem.W.fnIn K f = true := by
  obtain ⟨oc, od, dV, kV, doc, pm, an, cdv, ct, osl, rfl, lk, _⟩ := F.ex
  unfold PySem.W.fnIn
  rw [lk]
/-- the exceptions' __init__ -/
theorem ex_ok {P : Program} {w : World} {base : Heap} {e : ExT} {C : Cl} {fd : FuncData} (hC : T.cls[e.c]? = some C) (ht : exT1 T e = true) (fa : ExFa K e.base C.name) (FD : FunD K e.fn.name e.fn.qual (defArgs e.fn.st) (defBody e.fn.st) (defScope e.fn.st) [] [] (fAd K e.fn) fd) (hm : mg e.base = some (.ref (He.ga K e.base))) :
    FnOk P w K mg base (L2.CX P w) 1 (fAd K e.fn) fd (e.fn.N.take e.fn.k) (spX0 (He.ga K C.name)) := by
  unfold exT1 at ht
  rw [hC] at ht
  simp only [Bool.and_eq_true, decide_eq_true_eq] at ht
  obtain ⟨⟨⟨⟨⟨⟨⟨⟨⟨h1, h2⟩, h3⟩, h4⟩, h5⟩, h6⟩, h7⟩, h8⟩, h9⟩, h10⟩ := ht
  obtain ⟨S, _⟩ := sc_ok h7
  have hps : e.fn.N.take e.fn.k = [("self" : Str)] := by rw [h5, h6]; rfl
  refine FD.ok (k := 0) S (fun vs H Q E hq => ?_) (fun cdv A outer s H vs Q E hr hq => ⟨wSs _ _, wSs.pss, ?_⟩)
  · obtain ⟨a, rfl, _⟩ := hq
    rw [hps]
    rfl
  · obtain ⟨a, rfl, ha, q⟩ := hq
    unfold exBody at h4
    split at h4
    · rename_i b p1 m p2 sf p3 z j p4 pos pos' hbody
      simp only [Bool.and_eq_true, decide_eq_true_eq] at h4
      obtain ⟨⟨⟨k1, k2⟩, k3⟩, k4⟩ := h4
      subst k1 k2 k3
      rw [hbody]
      refine wSs.of (pss_one (ps_expr wE.pe rfl)) ?_
      refine exinit_gen fa (show _ = _ from h9) hm (dbg_ok h10) k4 rfl rfl fa.oex ?_
      refine wA.of (pa_cons (pe_var (i := 0) ?_ (.inl h8)) (pa_cons pe_str pa_nil)) ?_
      · show e.fn.N[0]? = _
        rw [h5]
        rfl
      · refine ⟨.ref a, ?_, a, [.str z], rfl, (show 1 ≤ 1000 by decide), ha, q⟩
        unfold L2.start
        rfl
    · cases h4
theorem facts_of (X0 : K.In h) (G : h.Ns mainGlobals mg) (c : SaysM T exs K) (hb : tabB T exs = true) (bd : AllF T.fns) (bx : AllF (exs.map (·.fn))) : Facts T K mg := by
  unfold tabB at hb
  simp only [Bool.and_eq_true, decide_eq_true_eq] at hb
  obtain ⟨⟨⟨⟨⟨⟨h1, h2⟩, h3⟩, h4⟩, h5⟩, h6⟩, h7⟩ := hb
  have fact := fun {f : He.Fa} (hf : f ∈ faT T exs) => says_fact c hf
  have fcl : ∀ {cn : Nat} {C : Cl} {f : He.Fa}, T.cls[cn]? = some C → f ∈ faCl T.nm C → f.ok K = true := fun {cn C f} hC hf => fact (mem_r (mem_r (mem_l (List.mem_flatMap.mpr ⟨C, List.mem_of_getElem? hC, hf⟩))))
  have own : ∀ {cn : Nat} {C : Cl} {f : He.Fa}, T.cls[cn]? = some C → C.exc = none → f ∈ He.Fa.cls C.name :: ((if (C.ms.lookup 0).isSome then [He.Fa.mkr C.name] else []) ++ (C.ms.map (fun p => He.Fa.meth C.name (T.nm.getD p.1 Str.empty)) ++ C.fl.map fun f => He.Fa.noat C.name (T.nm.getD f Str.empty))) → f.ok K = true := fun {cn C f} hC he hf => fcl hC (by
    unfold faCl
    rw [he]
    exact List.mem_cons_of_mem _ hf)
  have look : ∀ {l : List (Nat × Nat)} {m f : Nat}, l.lookup m = some f → (m, f) ∈ l := fun {l m f} e => mem_look e
  have clb : ∀ {cn : Nat} {C : Cl}, T.cls[cn]? = some C → clB T exs cn C = true := fun {cn C} hC => by
    have := enumB_at (i := 0) h3 hC
    rw [Nat.zero_add] at this
    exact this
  have meth : ∀ {cn m f : Nat} {C : Cl}, T.cls[cn]? = some C → C.exc = none → C.ms.lookup m = some f → ∃ F x, T.fns[f]? = some F ∧ T.nm[m]? = some x ∧ fAd K F = He.ma K (He.ga K C.name) x ∧ Meth K (He.ga K C.name) x (fAd K F) := fun {cn m f C} hC he hm => by
    have q := clb hC
    unfold clB at q
    rw [he] at q
    have q : (C.ms.all (msB T C) && C.fl.all fun f => (T.nm[f]?).isSome) = true := q
    rw [Bool.and_eq_true] at q
    have q1 := List.all_eq_true.mp q.1 _ (look hm)
    unfold msB at q1
    split at q1
    · rename_i F x hF hx
      simp only [Bool.and_eq_true, decide_eq_true_eq] at q1
      have e1 : fAd K F = He.ma K (He.ga K C.name) x := by
        unfold fAd
        rw [q1.1, q1.2]
      have hx2 : T.nm[m]? = some x := hx
      have e2 : T.nm.getD m Str.empty = x := by rw [List.getD_eq_getElem?_getD, hx2]; rfl
      refine ⟨F, x, hF, hx, e1, ?_⟩
      rw [e1]
      refine He.meth_ok (own hC he (List.mem_cons_of_mem _ (mem_r (mem_l ?_))))
      exact List.mem_map.mpr ⟨(m, f), look hm, by rw [e2]⟩
    · cases q1
  refine ⟨h2, fun x hx => ?_, fun f F hF => ?_, fun f F hF hc => ?_, fun cn C hC => ?_, fun cn C hC he => ?_, fun cn f C hC he hm => ?_, fun cn m f C x hC he hm hx => ?_, fun cn f C x hC he hf hx => ?_, fun cn C fl hC he X x p pos es hK hmg hcalm hroom hx hg hs => ?_, fun cn C fl hC he i hi => ?_, fun cn C hC he => ?_, fun cn m f C hC he hm => ?_⟩
  · exact He.free_ok X0 G (fact (mem_l (List.mem_map.mpr ⟨x, hx, rfl⟩)))
  · have hmem := List.mem_of_getElem? hF
    obtain ⟨fd, FD⟩ := says_def c (F := F) (mem_l (List.mem_map.mpr ⟨F, hmem, rfl⟩))
    have q := List.all_eq_true.mp h1 F hmem
    unfold fnB at q
    rw [Bool.and_eq_true] at q
    obtain ⟨S, hk⟩ := sc_ok q.1
    exact ⟨fd, FD, FD.bindsN (bd.mem F hmem), S, hk, q.2⟩
  · have e : fAd K F = He.ga K F.name := by unfold fAd; rw [hc]
    rw [e]
    refine He.glo_ok X0 G (fact (mem_r (mem_l (List.mem_filterMap.mpr ⟨F, List.mem_of_getElem? hF, ?_⟩))))
    rw [hc]
    rfl
  · refine He.glo_ok X0 G (fcl hC ?_)
    unfold faCl
    exact List.mem_cons_self ..
  · exact He.cls_ok (own hC he (List.mem_cons_self ..))
  · obtain ⟨F, x, hF, hx, e1, _⟩ := meth hC he hm
    rw [h5] at hx
    cases hx
    refine ⟨F, hF, ?_⟩
    rw [e1]
    refine He.mkr_ok (own hC he (List.mem_cons_of_mem _ (mem_l ?_)))
    rw [hm]
    exact List.mem_cons_self ..
  · obtain ⟨F, x', hF, hx', _, M⟩ := meth hC he hm
    rw [hx] at hx'
    cases hx'
    exact ⟨F, hF, M⟩
  · have e2 : T.nm.getD f Str.empty = x := by rw [List.getD_eq_getElem?_getD, hx]; rfl
    refine He.noat_ok (own hC he (List.mem_cons_of_mem _ (mem_r (mem_r (List.mem_map.mpr ⟨f, ?_, by rw [e2]⟩)))))
    simpa using hf
  · have q := clb hC
    unfold clB at q
    rw [he] at q
    have q : (exs.any fun e => decide (e.c = cn)) = true := q
    obtain ⟨e, hem, hec⟩ := List.any_eq_true.mp q
    have hec := of_decide_eq_true hec
    subst hec
    have ht := List.all_eq_true.mp h4 e hem
    have ht2 := ht
    unfold exT1 at ht2
    rw [hC] at ht2
    simp only [Bool.and_eq_true, decide_eq_true_eq] at ht2
    obtain ⟨⟨⟨⟨⟨⟨⟨⟨⟨t1, t2⟩, t3⟩, t4⟩, t5⟩, t6⟩, t7⟩, t8⟩, t9⟩, t10⟩ := ht2
    rw [t3] at he
    cases he
    have cb : bxT T exs K = true := congrArg (fun z : AlM => z.1) c
    unfold bxT at cb
    have cb2 := List.all_eq_true.mp cb e hem
    rw [hC] at cb2
    have fa := exfa_ok cb2
    obtain ⟨fd, FD⟩ := says_def c (F := e.fn) (mem_r (List.mem_map.mpr ⟨e, hem, rfl⟩))
    have hmb : mg e.base = some (.ref (He.ga K e.base)) := He.glo_ok X0 G (fact (mem_r (mem_r (mem_r (List.mem_map.mpr ⟨e, hem, rfl⟩)))))
    have hmc : mg C.name = some (.ref (He.ga K C.name)) := He.glo_ok X0 G (fcl hC (by unfold faCl; exact List.mem_cons_self ..))
    have eI : fAd K e.fn = He.ma K (He.ga K C.name) "__init__" := by
      unfold fAd
      rw [t1, t2]
    subst hK hmg
    have FO := ex_ok (P := X.prog) (w := X.w) (base := X.base) hC ht fa FD hmb
    rw [eI] at FO
    have hB := FD.bindsN (ps := e.fn.N.take e.fn.k) (bx.mem e.fn (List.mem_map.mpr ⟨e, hem, rfl⟩))
    intro pins s σ H Q I hq
    have hg2 : Gl X x ∧ (x == ("__debug__" : Str)) = false := by
      unfold glB at hg
      rw [Bool.and_eq_true, decide_eq_true_eq] at hg
      exact ⟨hg.1, dbg_ok hg.2⟩
    subst hx
    refine ex_make fa.oex fa.fi fa.ty FO hroom hB hg2.1 hmc hg2.2 hs (fun pos pins s I => thn (hq pos pins s I) fun us s1 ⟨vs, H1, I1, r, hl, q⟩ => ?_) pins s I
    rcases q with ⟨e0, q⟩ | ⟨e0, _⟩
    · exact ⟨vs, H1, I1, r, e0, q⟩
    · exact absurd (List.eq_nil_of_length_eq_zero hl) e0
  · have q := clb hC
    unfold clB at q
    rw [he] at q
    have q : (exs.any fun e => decide (e.c = cn)) = true := q
    obtain ⟨e, hem, hec⟩ := List.any_eq_true.mp q
    have hec := of_decide_eq_true hec
    subst hec
    have ht2 := List.all_eq_true.mp h4 e hem
    unfold exT1 at ht2
    rw [hC] at ht2
    simp only [Bool.and_eq_true, decide_eq_true_eq] at ht2
    obtain ⟨⟨⟨⟨⟨⟨⟨⟨⟨t1, t2⟩, t3⟩, _⟩, _⟩, _⟩, _⟩, _⟩, _⟩, _⟩ := ht2
    rw [t3] at he
    cases he
    cases hi
  · cases hx : C.exc with
    | none => rw [hx] at he; cases he
    | some fl =>
      refine He.exm_ok (fcl hC ?_)
      unfold faCl
      rw [hx]
      exact List.mem_cons_of_mem _ (List.mem_cons_self ..)
  · obtain ⟨F, x, hF, hx, e1, M⟩ := meth hC he hm
    obtain ⟨fd, FD⟩ := says_def c (F := F) (mem_l (List.mem_map.mpr ⟨F, List.mem_of_getElem? hF, rfl⟩))
    refine ⟨F, hF, M.fn, fnd_fnIn FD, fun z => ?_, fun z => ?_⟩
    · subst z
      rw [h6] at hx
      cases hx
      exact M.at_
    · subst z
      rw [h7] at hx
      cases hx
      exact M.at_
end
/-! ### the law -/
def h0M : MH := ⟨0, fun _ => none⟩
def spL (T : Tab) (K : PySem.W.Frag) (n : Nat) (R : List Int → Res) : Sp := fun us H Q E => ∃ ns : List Int, ns.length ≤ n ∧ spC T K [.fz (ns.map .int)] h0M (R ns) 1 us H Q E
theorem RVs.ints {K : PySem.W.Frag} {ρ : List Addr} {H : Hp} : ∀ ns : List Int, RVs K ρ H (ns.map .int) (ns.map V.int)
  | [] => rfl
  | i :: r => ⟨.int i, r.map V.int, rfl, rfl, RVs.ints r⟩
theorem law_facts {T : Tab} {exs : List ExT} {P : Program} {w : World} {K : PySem.W.Frag} {h : Heap} {mg : Str → Option Value} {f : Addr} {lid d : Nat} {F : Fn} (X : K.In h) (G : h.Ns mainGlobals mg) (hfa : mg ("law" : Str) = some (.ref f)) (c : SaysM T exs K) (hb : tabB T exs = true) (bd : AllF T.fns) (bx : AllF (exs.map (·.fn)))
    (hF : T.fns[lid]? = some F) (hFn : F.name = ("law" : Str)) (hFc : F.cls = none) (hFN : F.N.take F.k = [("_law_script" : Str)]) (hk : F.k = 1) {hE : List Int → MH} (hlaw : ∀ ns : List Int, ns.length ≤ 63 → BS T (.cl d lid [.fz (ns.map .int)] h0M (.ok (.bl true) (hE ns)))) :
    ∃ fd : FuncData, (∀ (s : Shared) (v : Value), BindsTo s fd ⟨[v], []⟩ [(("_law_script" : Str), v)]) ∧ ∀ base : Heap, FnOk P w K mg base (L2.CX P w) d f fd ["_law_script"] (spL T K 63 fun ns => .ok (.bl true) (hE ns)) := by
  have fa := facts_of X G c hb bd bx
  have e : (some (.ref f) : Option Value) = some (.ref (fAd K F)) := hfa.symm.trans (by rw [← hFn]; exact fa.gl lid F hF hFc)
  have e2 : f = fAd K F := by injection e with e; injection e
  subst e2
  obtain ⟨fd, FD, hB, S, hkl, hck⟩ := fa.fn lid F hF
  have hlen : (F.N.take F.k).length = 1 := by rw [hFN]; rfl
  refine ⟨fd, fun s v => ?_, fun base => ?_⟩
  · have q := FD.bindsA (bd.mem F (List.mem_of_getElem? hF)) s [v] (by rw [hlen]; rfl)
    rw [hFN] at q
    exact q
  · have key : ∀ ns : List Int, ns.length ≤ 63 → FnOk P w K mg base (L2.CX P w) d (fAd K F) fd (F.N.take F.k) (spC T K [.fz (ns.map .int)] h0M (.ok (.bl true) (hE ns)) 1) := fun ns hn => by
      have FO := (sound (hlaw ns hn) P w K mg base F fa hF).2 fd FD
      rw [hk] at FO ⊢
      exact FO
    rw [hFN] at key
    refine ⟨fun vs H Q E hq => ?_, fun A outer s H args us vs Q E hr he hbt hv hq => ?_⟩
    · obtain ⟨ns, _, q⟩ := hq
      exact q.1
    · obtain ⟨ns, hn, q⟩ := hq
      exact (key ns hn).run A outer s H args us vs Q E hr he hbt hv q
theorem law_sp {T : Tab} {K : PySem.W.Frag} {H : Hp} {a : Addr} {ns : List Int} {hE : List Int → MH} (hl : ns.length ≤ 63) (hS : SqL K H a (ns.map V.int)) : spL T K 63 (fun ns => .ok (.bl true) (hE ns)) [.ref a] H (fun v _ => v = .bl true) fun _ _ _ => False := by
  refine ⟨ns, hl, rfl, [], ⟨rfl, .nil, fun m b e => by simp at e, fun _ _ => rfl⟩, .one ⟨a, _, rfl, ?_, RVs.ints ns⟩, fun ρ' H' u _ _ r => r⟩
  rcases hS with hS | hS
  · exact .inl ⟨by simp, hS⟩
  · exact .inr hS
end Mp
namespace Mp
open PySem PySem.Spec L2
def CXA (P : Program) : CXT := fun outer H s E u s' => ∃ w : World, L2.CX P w outer H s E u s'
theorem cxa_no {P : Program} (H : Hp) (s : Shared) (e : Value) (s' : Shared) (h : CXA P [] H s (fun _ _ _ => False) e s') : False := by
  obtain ⟨_, _, _, _, _, _, _, _, _, _, _, _, _, z⟩ := h
  exact z
theorem fn_any {P : Program} {w : World} {K : PySem.W.Frag} {mg : Str → Option Value} {base : Heap} {k : Nat} {f : Addr} {fd : FuncData} {ps : List Str} {sp : Sp} (F : FnOk P w K mg base (L2.CX P w) k f fd ps sp) : FnOk P w K mg base (CXA P) k f fd ps sp :=
  ⟨F.len, fun A outer s H args us vs Q E hr he hb hv hs => codeAny_mono (F.run A outer s H args us vs Q E hr he hb hv hs) fun r s' h => by
    cases r with
    | error e => exact ⟨w, h⟩
    | ok fl => cases fl <;> exact h⟩
end Mp
namespace Mp
open PySem PySem.Spec L2
/-! ### an evaluator with fuel -/
abbrev Orc := Nat → List PV → MH → Option Res
def LF : Nat := 4000
def finV (tm : Bool) (v : PV) (h : MH) : Option (PV × MH) := match tm with
  | false => some (v, h)
  | true => match truthV v h with
    | some b => some (.bl b, h)
    | none => none
def cmpR (op : Nat) (x y : PV) (h : MH) : Option Bool := match cmpV op x y h with
  | some r => some r
  | none => match y with
    | .ref m => match h.get m with
      | some (.dict kvs) => match keyOf x with
        | some k => match op with
          | 6 => some (lookK k kvs).isSome
          | 7 => some (!(lookK k kvs).isSome)
          | _ => none
        | none => none
      | _ => none
    | _ => none
def endL (r : IT) (i : Nat) (h : MH) : Bool := match r.len h with
  | some n => Nat.ble n i
  | none => false
section
variable (g : PV → Ev → MH → Option (Ev × MH)) (ts : Ev → MH → Option (Bool × MH)) (own : List Nat) (r : IT) (D : Nat) (σ : Ev)
def cpL (ee : Ev → MH → Option (PV × MH)) : Nat → Nat → MH → Option MH
  | 0, _, _ => none
  | m + 1, i, h => match r.at h i with
    | none => if endL r i h = true then some h else none
    | some x => match g x (wipeM own σ) h with
      | none => none
      | some (σ2, h2) => match ts σ2 h2 with
        | none => none
        | some (false, h3) => cpL ee m (i + 1) h3
        | some (true, h3) => match ee σ2 h3 with
          | none => none
          | some (v, h4) => match h4.get D with
            | some (.lst acc) => if acc.length < big then cpL ee m (i + 1) (h4.put D (.lst (acc ++ [v]))) else none
            | _ => none
def dpL (ke ve : Ev → MH → Option (PV × MH)) : Nat → Nat → MH → Option MH
  | 0, _, _ => none
  | m + 1, i, h => match r.at h i with
    | none => if endL r i h = true then some h else none
    | some x => match g x (wipeM own σ) h with
      | none => none
      | some (σ2, h2) => match ts σ2 h2 with
        | none => none
        | some (false, _) => none
        | some (true, h3) => match ke σ2 h3 with
          | none => none
          | some (kv, h4) => match keyOf kv with
            | none => none
            | some k => match ve σ2 h4 with
              | none => none
              | some (v, h5) => match h5.get D with
                | some (.dict acc) => if acc.length < big then dpL ke ve m (i + 1) (h5.put D (.dict (putK k v acc))) else none
                | _ => none
def cqL (inner : Ev → MH → Option MH) : Nat → Nat → MH → Option MH
  | 0, _, _ => none
  | m + 1, i, h => match r.at h i with
    | none => if endL r i h = true then some h else none
    | some x => match g x (wipeM own σ) h with
      | none => none
      | some (σ2, h2) => match ts σ2 h2 with
        | none => none
        | some (false, h3) => cqL inner m (i + 1) h3
        | some (true, h3) => match inner σ2 h3 with
          | none => none
          | some h5 => cqL inner m (i + 1) h5
end
section
variable (T : Tab) (C : Orc)
mutual
def evE : Bool → ME → Ev → MH → Option (PV × MH)
  | tm, .loc i, σ, h => match σ[i]? with
    | some (some v) => finV tm v h
    | _ => none
  | tm, .cst v, _, h => if tm = true then none else some (v, h)
  | tm, .gv v, _, h => none
  | tm, .fld o f, σ, h => match evE false o σ h with
    | some (.ref m, h1) => match h1.get m with
      | some (.ins c fs) => if fldF T c f = true then (match lookF f fs with | some v => finV tm v h1 | none => none) else none
      | _ => none
    | _ => none
  | tm, .bin op a b, σ, h => if tm = true then none else match evE false a σ h with
    | some (x, h1) => match evE false b σ h1 with
      | some (y, h2) => binV op x y h2
      | none => none
    | none => none
  | tm, .neg a, σ, h => if tm = true then none else match evE false a σ h with
    | some (.int i, h1) => some (.int (-i), h1)
    | _ => none
  | tm, .not a, σ, h => match evE tm a σ h with
    | some (.bl b, h1) => some (.bl (!b), h1)
    | _ => none
  | tm, .andE a b, σ, h => match evE tm a σ h with
    | some (.bl true, h1) => evE tm b σ h1
    | some (.bl false, h1) => some (.bl false, h1)
    | _ => none
  | tm, .orE a b, σ, h => match evE tm a σ h with
    | some (.bl false, h1) => evE tm b σ h1
    | some (.bl true, h1) => some (.bl true, h1)
    | _ => none
  | tm, .cmp op a b, σ, h => match evE false a σ h with
    | some (x, h1) => match evE false b σ h1 with
      | some (y, h2) => match cmpR op x y h2 with
        | some r => some (.bl r, h2)
        | none => none
      | none => none
    | none => none
  | tm, .call f as, σ, h => match evEs as σ h with
    | some (vs, h1) => match C f vs h1 with
      | some (.ok v h2) => finV tm v h2
      | _ => none
    | none => none
  | tm, .make c as, σ, h => if tm = true then none else match evEs as σ h with
    | some (vs, h1) => match methF T c 0 with
      | some f => match C f (.ref h1.nx :: vs) (h1.new (.ins c [])) with
        | some (.ok .non h2) => some (.ref h1.nx, h2)
        | _ => none
      | none => none
    | none => none
  | tm, .meth o m as, σ, h => match evE false o σ h with
    | some (.ref a, h1) => match h1.get a with
      | some (.ins c fs) => match methF T c m with
        | some f => match lookF m fs with
          | none => match evEs as σ h1 with
            | some (vs, h2) => match C f (.ref a :: vs) h2 with
              | some (.ok v h3) => finV tm v h3
              | _ => none
            | none => none
          | some _ => none
        | none => none
      | _ => none
    | _ => none
  | tm, .bf id as, σ, h => match evEs as σ h with
    | some (vs, h1) => match bfn id vs h1 with
      | some (v, h2) => finV tm v h2
      | none => match id, vs with
        | 0, [.ref m] => match h1.get m with
          | some (.ins c fs) => match methF T c 4 with
            | some f => match C f [.ref m] h1 with
              | some (.ok (.int n) h2) => if 0 ≤ n ∧ n < 2 ^ 63 then finV tm (.int n) h2 else none
              | _ => none
            | none => none
          | _ => none
        | _, _ => none
    | none => none
  | tm, .bm id o as, σ, h => match evE false o σ h with
    | some (x, h1) => if tyB id x h1 = true then (match evEs as σ h1 with
      | some (vs, h2) => match bmn id x vs h2 with
        | some (v, h3) => finV tm v h3
        | none => none
      | none => none) else none
    | none => none
  | tm, .lenset e, σ, h => if tm = true then none else match evE false e σ h with
    | some (v, h1) => match lensetV v h1 with
      | some n => some (.int n, h1)
      | none => none
    | none => none
  | tm, .lrg a, σ, h => if tm = true then none else match evE false a σ h with
    | some (.int j, h1) => if 0 ≤ j ∧ j ≤ 1000000 then some (.ref h1.nx, h1.new (.lst (rngM 0 j))) else none
    | _ => none
  | tm, .lrg2 a b, σ, h => if tm = true then none else match evE false a σ h with
    | some (.int i, h1) => match evE false b σ h1 with
      | some (.int j, h2) => if 0 ≤ i ∧ i ≤ 1000000 ∧ 0 ≤ j ∧ j ≤ 1000000 then some (.ref h2.nx, h2.new (.lst (rngM i j))) else none
      | _ => none
    | _ => none
  | tm, .sub a i, σ, h => match evE false a σ h with
    | some (x, h1) => match evE false i σ h1 with
      | some (y, h2) => match subV x y h2 with
        | some v => finV tm v h2
        | none => match x with
          | .ref m => match h2.get m with
            | some (.dict kvs) => match keyOf y with
              | some k => match lookK k kvs with
                | some v => finV tm v h2
                | none => none
              | none => none
            | some (.ins c fs) => match methF T c 5 with
              | some f => match C f [.ref m, y] h2 with
                | some (.ok v h3) => finV tm v h3
                | _ => none
              | none => none
            | _ => none
          | _ => none
      | none => none
    | none => none
  | tm, .slc _ _ _, σ, h => none
  | tm, .rev a, σ, h => if tm = true then none else match evE false a σ h with
    | some (.ref m, h1) => match h1.get m with
      | some (.lst xs) => some (.ref h1.nx, h1.new (.lst xs.reverse))
      | _ => none
    | _ => none
  | tm, .tup es, σ, h => if tm = true then none else match evEs es σ h with
    | some (vs, h1) => some (.tup vs, h1)
    | none => none
  | tm, .lst es, σ, h => if tm = true then none else match evEs es σ h with
    | some (vs, h1) => some (.ref h1.nx, h1.new (.lst vs))
    | none => none
  | tm, .lcomp own elt t it ifs, σ, h => if tm = true then none else match evI it σ h with
    | some (r, h1) => match cpL (evG t) (evTs ifs) own r h1.nx σ (evE false elt) LF 0 (h1.new (.lst [])) with
      | some h2 => some (.ref h1.nx, h2)
      | none => none
    | none => none
  | tm, .lcomp2 own vs1 elt t it ifs t1 it1 ifs1, σ, h => if tm = true then none else match evI it σ h with
    | some (r, h1) => match cqL (evG t) (evTs ifs) own r σ (fun σ2 h3 => match evI it1 σ2 h3 with
        | some (r1, h4) => cpL (evG t1) (evTs ifs1) vs1 r1 h1.nx σ2 (evE false elt) LF 0 h4
        | none => none) LF 0 (h1.new (.lst [])) with
      | some h2 => some (.ref h1.nx, h2)
      | none => none
    | none => none
  | tm, .dcomp own k v t it ifs, σ, h => if tm = true then none else match evI it σ h with
    | some (r, h1) => match dpL (evG t) (evTs ifs) own r h1.nx σ (evE false k) (evE false v) LF 0 (h1.new (.dict [])) with
      | some h2 => some (.ref h1.nx, h2)
      | none => none
    | none => none
  | tm, .ife c a b, σ, h => if tm = true then none else match evE true c σ h with
    | some (.bl true, h1) => evE false a σ h1
    | some (.bl false, h1) => evE false b σ h1
    | _ => none
def evEs : List ME → Ev → MH → Option (List PV × MH)
  | [], _, h => some ([], h)
  | e :: es, σ, h => match evE false e σ h with
    | some (v, h1) => match evEs es σ h1 with
      | some (vs, h2) => some (v :: vs, h2)
      | none => none
    | none => none
def evTs : List ME → Ev → MH → Option (Bool × MH)
  | [], _, h => some (true, h)
  | c :: [], σ, h => match evE true c σ h with
    | some (.bl b, h1) => some (b, h1)
    | _ => none
  | _ :: _ :: _, _, _ => none
def evI : MI → Ev → MH → Option (IT × MH)
  | .ex e, σ, h => match evE false e σ h with
    | some (.ref m, h1) => match h1.get m with
      | some (.lst _) => some (.live m, h1)
      | _ => none
    | some (.tup xs, h1) => some (.tup xs, h1)
    | _ => none
  | .rg1 a, σ, h => match evE false a σ h with
    | some (.int j, h1) => if -(2 ^ 62) ≤ j ∧ j < 2 ^ 62 then some (.rng 0 j.toNat, h1) else none
    | _ => none
  | .rg2 a b, σ, h => match evE false a σ h with
    | some (.int i, h1) => match evE false b σ h1 with
      | some (.int j, h2) => if -(2 ^ 62) ≤ i ∧ i < 2 ^ 62 ∧ -(2 ^ 62) ≤ j ∧ j < 2 ^ 62 then some (.rng i (j - i).toNat, h2) else none
      | _ => none
    | _ => none
  | .enu e, σ, h => match evE false e σ h with
    | some (.ref m, h1) => match h1.get m with
      | some (.lst _) => some (.enu m, h1)
      | _ => none
    | _ => none
def evG : MT → PV → Ev → MH → Option (Ev × MH)
  | .nm i, v, σ, h => some (σ.set i (some v), h)
  | .tp ts, v, σ, h => match v with
    | .tup vs => if ts.length = vs.length then evGs ts vs σ h else none
    | _ => none
  | .at o f, v, σ, h => match evE false o σ h with
    | some (.ref m, h1) => match h1.get m with
      | some (.ins c fs) => if fldF T c f = true ∧ fs.length < 900 then some (σ, h1.put m (.ins c (putM f v fs))) else none
      | _ => none
    | _ => none
  | .ix o i, v, σ, h => match evE false o σ h with
    | some (x, h1) => match evE false i σ h1 with
      | some (y, h2) => match setV x y v h2 with
        | some h3 => some (σ, h3)
        | none => none
      | none => none
    | none => none
def evGs : List MT → List PV → Ev → MH → Option (Ev × MH)
  | [], [], σ, h => some (σ, h)
  | t :: ts, v :: vs, σ, h => match evG t v σ h with
    | some (σ1, h1) => evGs ts vs σ1 h1
    | none => none
  | _, _, _, _ => none
end
end
end Mp
namespace Mp
open PySem PySem.Spec L2
/-! ### statements -/
def foL (g : PV → Ev → MH → Option (Ev × MH)) (b : Ev → MH → Option Fl) (r : IT) : Nat → Nat → Ev → MH → Option Fl
  | 0, _, _, _ => none
  | m + 1, i, σ, h => match r.at h i with
    | none => if endL r i h = true then some (.nx σ h) else none
    | some x => match g x σ h with
      | none => none
      | some (σ1, h1) => match b σ1 h1 with
        | some (.nx σ2 h2) => foL g b r m (i + 1) σ2 h2
        | some (.ct σ2 h2) => foL g b r m (i + 1) σ2 h2
        | some (.bk σ2 h2) => some (.nx σ2 h2)
        | some (.rt v h2) => some (.rt v h2)
        | some (.ex c fs σ2 h2) => some (.ex c fs σ2 h2)
        | none => none
def whL (t : Ev → MH → Option (PV × MH)) (b : Ev → MH → Option Fl) : Nat → Ev → MH → Option Fl
  | 0, _, _ => none
  | m + 1, σ, h => match t σ h with
    | some (.bl false, h1) => some (.nx σ h1)
    | some (.bl true, h1) => match b σ h1 with
      | some (.nx σ2 h2) => whL t b m σ2 h2
      | some (.ct σ2 h2) => whL t b m σ2 h2
      | some (.bk σ2 h2) => some (.nx σ2 h2)
      | some (.rt v h2) => some (.rt v h2)
      | some (.ex c fs σ2 h2) => some (.ex c fs σ2 h2)
      | none => none
    | _ => none
section
variable (T : Tab) (C : Orc)
/-- a call that raises -/
def evX : ME → Ev → MH → Option (Nat × List (Nat × PV) × MH)
  | .call f as, σ, h => match evEs T C as σ h with
    | some (vs, h1) => match C f vs h1 with
      | some (.ex c fs h2) => some (c, fs, h2)
      | _ => none
    | none => none
  | _, _, _ => none
mutual
def evS : MS → Ev → MH → Option Fl
  | .asg t e, σ, h => match evE T C false e σ h with
    | some (v, h1) => match evG T C t v σ h1 with
      | some (σ2, h2) => some (.nx σ2 h2)
      | none => none
    | none => match evX T C e σ h with
      | some (c, fs, h1) => some (.ex c fs σ h1)
      | none => none
  | .ex e, σ, h => match evE T C false e σ h with
    | some (v, h1) => some (.nx σ h1)
    | none => match evX T C e σ h with
      | some (c, fs, h1) => some (.ex c fs σ h1)
      | none => none
  | .ret e, σ, h => match evE T C false e σ h with
    | some (v, h1) => some (.rt v h1)
    | none => match evX T C e σ h with
      | some (c, fs, h1) => some (.ex c fs σ h1)
      | none => none
  | .retN, _, h => some (.rt .non h)
  | .ifs c a b, σ, h => match evE T C true c σ h with
    | some (.bl true, h1) => evSs a σ h1
    | some (.bl false, h1) => evSs b σ h1
    | _ => none
  | .for t it b, σ, h => match evI T C it σ h with
    | some (r, h1) => foL (evG T C t) (evSs b) r LF 0 σ h1
    | none => none
  | .while c b, σ, h => whL (evE T C true c) (evSs b) LF σ h
  | .raise c as, σ, h => match T.cls[c]? with
    | some K => match K.exc with
      | some fl => match evEs T C as σ h with
        | some (vs, h1) => if vs.length = fl.length then some (.ex c (fl.zip vs) σ h1) else none
        | none => none
      | none => none
    | none => none
  | .tryE b c su, σ, h => match evSs b σ h with
    | some (.ex c' fs σ1 h1) => if c' = c then (match retOf su with
      | some v => some (.rt v h1)
      | none => none) else none
    | some f => some f
    | none => none
  | .pass, σ, h => some (.nx σ h)
  | .brk, σ, h => some (.bk σ h)
  | .cont, σ, h => some (.ct σ h)
  | .nev, _, _ => none
def evSs : List MS → Ev → MH → Option Fl
  | [], σ, h => some (.nx σ h)
  | s :: ss, σ, h => match evS s σ h with
    | some (.nx σ1 h1) => evSs ss σ1 h1
    | some f => some f
    | none => none
end
end
/-- calls -/
def callF (T : Tab) : Nat → Orc
  | 0, _, _, _ => none
  | n + 1, f, vs, h => match T.fns[f]? with
    | some F => if vs.length = F.k then (match evSs T (callF T n) F.body (vs.map some ++ List.replicate (F.N.length - vs.length) none) h with
      | some fl => fl.res
      | none => none) else none
    | none => none
/-! ### more levels do no harm -/
def upJ : J → J
  | .e d a σ h v h' => .e (d + 1) a σ h v h'
  | .x d a σ h c fs h' => .x (d + 1) a σ h c fs h'
  | .es d a σ h v h' => .es (d + 1) a σ h v h'
  | .t d a σ h b h' => .t (d + 1) a σ h b h'
  | .i d a σ h r h' => .i (d + 1) a σ h r h'
  | .g d t v σ h σ' h' => .g (d + 1) t v σ h σ' h'
  | .gs d t v σ h σ' h' => .gs (d + 1) t v σ h σ' h'
  | .s d s σ h f => .s (d + 1) s σ h f
  | .ss d s σ h f => .ss (d + 1) s σ h f
  | .fo d t r i b σ h f => .fo (d + 1) t r i b σ h f
  | .wh d c b σ h f => .wh (d + 1) c b σ h f
  | .cl d f vs h r => .cl (d + 1) f vs h r
  | .cp d elt own t ifs r i D σ h h' => .cp (d + 1) elt own t ifs r i D σ h h'
  | .cq d elt own vs1 t ifs t1 it1 ifs1 r i D σ h h' => .cq (d + 1) elt own vs1 t ifs t1 it1 ifs1 r i D σ h h'
  | .dp d k v own t ifs r i D σ h h' => .dp (d + 1) k v own t ifs r i D σ h h'
  | .ts d ifs σ h b h' => .ts (d + 1) ifs σ h b h'
theorem up {T : Tab} {j : J} (b : BS T j) : BS T (upJ j) := by
  induction b with
  | loc e => exact .loc e
  | cst => exact .cst
  | gv => exact .gv
  | fld _ g hf hl i1 => exact .fld i1 g hf hl
  | bin _ _ hb i1 i2 => exact .bin i1 i2 hb
  | neg _ i1 => exact .neg i1
  | notE _ i1 => exact .notE i1
  | andT _ _ i1 i2 => exact .andT i1 i2
  | andF _ i1 => exact .andF i1
  | orF _ _ i1 i2 => exact .orF i1 i2
  | orT _ i1 => exact .orT i1
  | cmp _ _ hb i1 i2 => exact .cmp i1 i2 hb
  | dIn _ _ g hk i1 i2 => exact .dIn i1 i2 g hk
  | dNotIn _ _ g hk i1 i2 => exact .dNotIn i1 i2 g hk
  | call _ _ i1 i2 => exact .call i1 i2
  | xcall _ _ i1 i2 => exact .xcall i1 i2
  | make _ hm _ i1 i2 => exact .make i1 hm i2
  | meth _ g hm hl _ _ i1 i2 i3 => exact .meth i1 g hm hl i2 i3
  | bf _ hb i1 => exact .bf i1 hb
  | bm _ ht _ hb i1 i2 => exact .bm i1 ht i2 hb
  | lenset _ hn i1 => exact .lenset i1 hn
  | lrg _ l1 l2 i1 => exact .lrg i1 l1 l2
  | lrg2 _ _ k1 k2 l1 l2 i1 i2 => exact .lrg2 i1 i2 k1 k2 l1 l2
  | lenO _ g hm _ h0 h1 i1 i2 => exact .lenO i1 g hm i2 h0 h1
  | sub _ _ hv i1 i2 => exact .sub i1 i2 hv
  | subD _ _ g hk hv i1 i2 => exact .subD i1 i2 g hk hv
  | subO _ _ g hm _ i1 i2 i3 => exact .subO i1 i2 g hm i3
  | revL _ g i1 => exact .revL i1 g
  | tup _ i1 => exact .tup i1
  | lst _ i1 => exact .lst i1
  | ifT _ _ i1 i2 => exact .ifT i1 i2
  | ifF _ _ i1 i2 => exact .ifF i1 i2
  | lcomp _ _ i1 i2 => exact .lcomp i1 i2
  | lcomp2 _ _ i1 i2 => exact .lcomp2 i1 i2
  | dcomp _ _ i1 i2 => exact .dcomp i1 i2
  | esN => exact .esN
  | esC _ _ i1 i2 => exact .esC i1 i2
  | tN _ i1 => exact .tN i1
  | tAndT _ _ i1 i2 => exact .tAndT i1 i2
  | tAndF _ i1 => exact .tAndF i1
  | tOrF _ _ i1 i2 => exact .tOrF i1 i2
  | tOrT _ i1 => exact .tOrT i1
  | tCmp _ _ hb i1 i2 => exact .tCmp i1 i2 hb
  | tDIn _ _ g hk i1 i2 => exact .tDIn i1 i2 g hk
  | tDNotIn _ _ g hk i1 i2 => exact .tDNotIn i1 i2 g hk
  | tV hp _ ht i1 => exact .tV hp i1 ht
  | tsN => exact .tsN
  | ts1 _ i1 => exact .ts1 i1
  | iL _ g i1 => exact .iL i1 g
  | iT _ i1 => exact .iT i1
  | iR1 _ l1 l2 i1 => exact .iR1 i1 l1 l2
  | iR2 _ _ k1 k2 l1 l2 i1 i2 => exact .iR2 i1 i2 k1 k2 l1 l2
  | iE _ g i1 => exact .iE i1 g
  | gN => exact .gN
  | gT hl _ i1 => exact .gT hl i1
  | gA _ g hf hl i1 => exact .gA i1 g hf hl
  | gI _ _ hs i1 i2 => exact .gI i1 i2 hs
  | gsN => exact .gsN
  | gsC _ _ i1 i2 => exact .gsC i1 i2
  | cpE hl hi => exact .cpE hl hi
  | cpT hx _ _ _ g hb _ i1 i2 i3 i4 => exact .cpT hx i1 i2 i3 g hb i4
  | cpF hx _ _ _ i1 i2 i3 => exact .cpF hx i1 i2 i3
  | dpE hl hi => exact .dpE hl hi
  | dpT hx _ _ _ hk _ g hb _ i1 i2 i3 i4 i5 => exact .dpT hx i1 i2 i3 hk i4 g hb i5
  | cqE hl hi => exact .cqE hl hi
  | cqT hx _ _ _ _ _ i1 i2 i3 i4 i5 => exact .cqT hx i1 i2 i3 i4 i5
  | cqF hx _ _ _ i1 i2 i3 => exact .cqF hx i1 i2 i3
  | asg hp _ _ i1 i2 => exact .asg hp i1 i2
  | asgX _ i1 => exact .asgX i1
  | asgL _ _ i1 i2 => exact .asgL i1 i2
  | asgL2 _ _ i1 i2 => exact .asgL2 i1 i2
  | exS _ i1 => exact .exS i1
  | exX _ i1 => exact .exX i1
  | ret _ i1 => exact .ret i1
  | retX _ i1 => exact .retX i1
  | retN => exact .retN
  | ifsT _ _ i1 i2 => exact .ifsT i1 i2
  | ifsF _ _ i1 i2 => exact .ifsF i1 i2
  | forS _ _ i1 i2 => exact .forS i1 i2
  | whS _ i1 => exact .whS i1
  | raise hC hx _ hl i1 => exact .raise hC hx i1 hl
  | tryK _ hne i1 => exact .tryK i1 hne
  | tryC _ hv i1 => exact .tryC i1 hv
  | pass => exact .pass
  | brk => exact .brk
  | cont => exact .cont
  | ssN => exact .ssN
  | ssC _ _ i1 i2 => exact .ssC i1 i2
  | ssS _ hf i1 => exact .ssS i1 hf
  | foE hl hi => exact .foE hl hi
  | foT hx _ _ hg _ i1 i2 i3 => exact .foT hx i1 i2 hg i3
  | foB hx _ _ i1 i2 => exact .foB hx i1 i2
  | foO hx _ _ hf i1 i2 => exact .foO hx i1 i2 hf
  | whE _ i1 => exact .whE i1
  | whT _ _ hg _ i1 i2 i3 => exact .whT i1 i2 hg i3
  | whB _ _ i1 i2 => exact .whB i1 i2
  | whO _ _ hf i1 i2 => exact .whO i1 i2 hf
  | cl hF hl _ hr i1 => exact .cl hF hl i1 hr
end Mp
namespace Mp
open PySem PySem.Spec L2
/-! ### the evaluator is sound -/
def OS (T : Tab) (d : Nat) (C : Orc) : Prop := ∀ f vs h r, C f vs h = some r → BS T (.cl d f vs h r)
section
variable {T : Tab} {d : Nat} {C : Orc}
theorem OS.one (O : OS T d C) {f : Nat} {vs : List PV} {h : MH} {r : Res} (e : C f vs h = some r) : BS T (.cl (d + 1) f vs h r) := up (O f vs h r e)
theorem OS.two (O : OS T d C) {f : Nat} {vs : List PV} {h : MH} {r : Res} (e : C f vs h = some r) : BS T (.cl (d + 2) f vs h r) := up (O.one e)
theorem end_ok {r : IT} {i : Nat} {h : MH} (e : endL r i h = true) : ∃ n, r.len h = some n ∧ n ≤ i := by
  unfold endL at e
  split at e
  · exact ⟨_, by assumption, Nat.le_of_ble_eq_true e⟩
  · cases e
/-- what evE gives -/
def EvP (T : Tab) (d : Nat) (tm : Bool) (e : ME) (σ : Ev) (h : MH) (v : PV) (h' : MH) : Prop := match tm with
  | false => BS T (.e (d + 2) e σ h v h')
  | true => ∃ b, v = .bl b ∧ BS T (.t (d + 2) e σ h b h')
theorem fin_ok {e : ME} {σ : Ev} {h h1 h' : MH} {v w : PV} {tm : Bool} (hp : plainT e = true) (b : BS T (.e (d + 2) e σ h v h1)) (q : finV tm v h1 = some (w, h')) : EvP T d tm e σ h w h' := by
  unfold finV at q
  cases tm with
  | false => cases q; exact b
  | true =>
    have q : (match truthV v h1 with
      | some b => some (PV.bl b, h1)
      | none => none) = some (w, h') := q
    split at q
    · rename_i ht
      cases q
      exact ⟨_, rfl, .tV hp b ht⟩
    · cases q
theorem cmp_ok2 {op : Nat} {a b : ME} {σ : Ev} {h h1 h2 : MH} {x y : PV} {r tm : Bool} (b1 : BS T (.e (d + 2) a σ h x h1)) (b2 : BS T (.e (d + 2) b σ h1 y h2)) (q : cmpR op x y h2 = some r) : EvP T d tm (.cmp op a b) σ h (.bl r) h2 := by
  unfold cmpR at q
  split at q
  · rename_i hc
    cases q
    cases tm with
    | false => exact .cmp b1 b2 hc
    | true => exact ⟨_, rfl, .tCmp b1 b2 hc⟩
  · split at q
    · split at q
      · rename_i hg
        split at q
        · rename_i hk
          split at q
          · cases q
            cases tm with
            | false => exact .dIn b1 b2 hg hk
            | true => exact ⟨_, rfl, .tDIn b1 b2 hg hk⟩
          · cases q
            cases tm with
            | false => exact .dNotIn b1 b2 hg hk
            | true => exact ⟨_, rfl, .tDNotIn b1 b2 hg hk⟩
          · cases q
        · cases q
      · cases q
    · cases q
section
variable {g : PV → Ev → MH → Option (Ev × MH)} {ts : Ev → MH → Option (Bool × MH)} {own : List Nat} {r : IT} {D : Nat} {σ : Ev} {t : MT} {ifs : List ME}
theorem cpL_ok {ee : Ev → MH → Option (PV × MH)} {elt : ME} (hg : ∀ v σ h σ' h', g v σ h = some (σ', h') → BS T (.g (d + 2) t v σ h σ' h')) (ht : ∀ σ h b h', ts σ h = some (b, h') → BS T (.ts (d + 2) ifs σ h b h')) (he : ∀ σ h v h', ee σ h = some (v, h') → BS T (.e (d + 2) elt σ h v h')) :
    ∀ (m i : Nat) (h h' : MH), cpL g ts own r D σ ee m i h = some h' → BS T (.cp (d + 2) elt own t ifs r i D σ h h')
  | 0, i, h, h', q => by cases q
  | m + 1, i, h, h', q => by
    unfold cpL at q
    split at q
    · split at q
      · rename_i he
        cases q
        obtain ⟨n, e1, e2⟩ := end_ok he
        exact .cpE e1 e2
      · cases q
    · rename_i hx
      split at q
      · cases q
      · rename_i q1
        split at q
        · cases q
        · rename_i q2
          exact .cpF hx (hg _ _ _ _ _ q1) (ht _ _ _ _ q2) (cpL_ok hg ht he m _ _ _ q)
        · rename_i q2
          split at q
          · cases q
          · rename_i q3
            split at q
            · rename_i hD
              split at q
              · rename_i hb
                exact .cpT hx (hg _ _ _ _ _ q1) (ht _ _ _ _ q2) (he _ _ _ _ q3) hD hb (cpL_ok hg ht he m _ _ _ q)
              · cases q
            · cases q
theorem dpL_ok {ke ve : Ev → MH → Option (PV × MH)} {kk vv : ME} (hg : ∀ v σ h σ' h', g v σ h = some (σ', h') → BS T (.g (d + 2) t v σ h σ' h')) (ht : ∀ σ h b h', ts σ h = some (b, h') → BS T (.ts (d + 2) ifs σ h b h')) (hk : ∀ σ h v h', ke σ h = some (v, h') → BS T (.e (d + 2) kk σ h v h')) (hv : ∀ σ h v h', ve σ h = some (v, h') → BS T (.e (d + 2) vv σ h v h')) :
    ∀ (m i : Nat) (h h' : MH), dpL g ts own r D σ ke ve m i h = some h' → BS T (.dp (d + 2) kk vv own t ifs r i D σ h h')
  | 0, i, h, h', q => by cases q
  | m + 1, i, h, h', q => by
    unfold dpL at q
    split at q
    · split at q
      · rename_i he
        cases q
        obtain ⟨n, e1, e2⟩ := end_ok he
        exact .dpE e1 e2
      · cases q
    · rename_i hx
      split at q
      · cases q
      · rename_i q1
        split at q
        · cases q
        · cases q
        · rename_i q2
          split at q
          · cases q
          · rename_i q3
            split at q
            · cases q
            · rename_i q4
              split at q
              · cases q
              · rename_i q5
                split at q
                · rename_i hD
                  split at q
                  · rename_i hb
                    exact .dpT hx (hg _ _ _ _ _ q1) (ht _ _ _ _ q2) (hk _ _ _ _ q3) q4 (hv _ _ _ _ q5) hD hb (dpL_ok hg ht hk hv m _ _ _ q)
                  · cases q
                · cases q
theorem cqL_ok {inner : Ev → MH → Option MH} {elt : ME} {vs1 : List Nat} {t1 : MT} {it1 : MI} {ifs1 : List ME} (hg : ∀ v σ h σ' h', g v σ h = some (σ', h') → BS T (.g (d + 2) t v σ h σ' h')) (ht : ∀ σ h b h', ts σ h = some (b, h') → BS T (.ts (d + 2) ifs σ h b h'))
    (hi : ∀ σ2 h h', inner σ2 h = some h' → ∃ r1 h4, BS T (.i (d + 2) it1 σ2 h r1 h4) ∧ BS T (.cp (d + 2) elt vs1 t1 ifs1 r1 0 D σ2 h4 h')) :
    ∀ (m i : Nat) (h h' : MH), cqL g ts own r σ inner m i h = some h' → BS T (.cq (d + 2) elt own vs1 t ifs t1 it1 ifs1 r i D σ h h')
  | 0, i, h, h', q => by cases q
  | m + 1, i, h, h', q => by
    unfold cqL at q
    split at q
    · split at q
      · rename_i he
        cases q
        obtain ⟨n, e1, e2⟩ := end_ok he
        exact .cqE e1 e2
      · cases q
    · rename_i hx
      split at q
      · cases q
      · rename_i q1
        split at q
        · cases q
        · rename_i q2
          exact .cqF hx (hg _ _ _ _ _ q1) (ht _ _ _ _ q2) (cqL_ok hg ht hi m _ _ _ q)
        · rename_i q2
          split at q
          · cases q
          · rename_i q3
            obtain ⟨r1, h4, b1, b2⟩ := hi _ _ _ q3
            exact .cqT hx (hg _ _ _ _ _ q1) (ht _ _ _ _ q2) b1 b2 (cqL_ok hg ht hi m _ _ _ q)
end
end
end Mp
namespace Mp
open PySem PySem.Spec L2
section
variable {T : Tab} {d : Nat} {C : Orc}
mutual
theorem evE_ok (O : OS T d C) : ∀ (tm : Bool) (e : ME) (σ : Ev) (h : MH) (v : PV) (h' : MH), evE T C tm e σ h = some (v, h') → EvP T d tm e σ h v h'
  | tm, .loc i, σ, h, v, h', q => by
    unfold evE at q
    split at q
    · rename_i e; exact fin_ok rfl (.loc e) q
    · cases q
  | tm, .cst c, σ, h, v, h', q => by
    unfold evE at q
    cases tm with
    | true => cases q
    | false => cases q; exact .cst
  | tm, .gv c, σ, h, v, h', q => by
    unfold evE at q
    cases q
  | tm, .fld o f, σ, h, v, h', q => by
    unfold evE at q
    split at q
    · rename_i q1
      split at q
      · rename_i hg
        split at q
        · rename_i hf
          split at q
          · rename_i hl
            exact fin_ok rfl (.fld (evE_ok O false o _ _ _ _ q1) hg hf hl) q
          · cases q
        · cases q
      · cases q
    · cases q
  | tm, .bin op a b, σ, h, v, h', q => by
    unfold evE at q
    cases tm with
    | true => cases q
    | false =>
      rw [if_neg (by decide)] at q
      split at q
      · rename_i q1
        split at q
        · rename_i q2
          exact .bin (evE_ok O false a _ _ _ _ q1) (evE_ok O false b _ _ _ _ q2) q
        · cases q
      · cases q
  | tm, .neg a, σ, h, v, h', q => by
    unfold evE at q
    cases tm with
    | true => cases q
    | false =>
      rw [if_neg (by decide)] at q
      split at q
      · rename_i q1
        cases q
        exact .neg (evE_ok O false a _ _ _ _ q1)
      · cases q
  | tm, .not a, σ, h, v, h', q => by
    unfold evE at q
    split at q
    · rename_i q1
      cases q
      have b := evE_ok O tm a _ _ _ _ q1
      cases tm with
      | false => exact .notE b
      | true =>
        obtain ⟨c, e, b⟩ := b
        cases e
        exact ⟨_, rfl, .tN b⟩
    · cases q
  | tm, .andE a b, σ, h, v, h', q => by
    unfold evE at q
    split at q
    · rename_i q1
      have b1 := evE_ok O tm a _ _ _ _ q1
      have b2 := evE_ok O tm b _ _ _ _ q
      cases tm with
      | false => exact .andT b1 b2
      | true =>
        obtain ⟨c, e, b1⟩ := b1
        cases e
        obtain ⟨c, e, b2⟩ := b2
        exact ⟨c, e, .tAndT b1 b2⟩
    · rename_i q1
      have b1 := evE_ok O tm a _ _ _ _ q1
      cases q
      cases tm with
      | false => exact .andF b1
      | true =>
        obtain ⟨c, e, b1⟩ := b1
        cases e
        exact ⟨_, rfl, .tAndF b1⟩
    · cases q
  | tm, .orE a b, σ, h, v, h', q => by
    unfold evE at q
    split at q
    · rename_i q1
      have b1 := evE_ok O tm a _ _ _ _ q1
      have b2 := evE_ok O tm b _ _ _ _ q
      cases tm with
      | false => exact .orF b1 b2
      | true =>
        obtain ⟨c, e, b1⟩ := b1
        cases e
        obtain ⟨c, e, b2⟩ := b2
        exact ⟨c, e, .tOrF b1 b2⟩
    · rename_i q1
      have b1 := evE_ok O tm a _ _ _ _ q1
      cases q
      cases tm with
      | false => exact .orT b1
      | true =>
        obtain ⟨c, e, b1⟩ := b1
        cases e
        exact ⟨_, rfl, .tOrT b1⟩
    · cases q
  | tm, .cmp op a b, σ, h, v, h', q => by
    unfold evE at q
    split at q
    · rename_i q1
      split at q
      · rename_i q2
        split at q
        · rename_i q3
          cases q
          exact cmp_ok2 (evE_ok O false a _ _ _ _ q1) (evE_ok O false b _ _ _ _ q2) q3
        · cases q
      · cases q
    · cases q
  | tm, .call f as, σ, h, v, h', q => by
    unfold evE at q
    split at q
    · rename_i q1
      split at q
      · rename_i q2
        exact fin_ok rfl (.call (evEs_ok O as _ _ _ _ q1) (O.two q2)) q
      · cases q
    · cases q
  | tm, .make c as, σ, h, v, h', q => by
    unfold evE at q
    cases tm with
    | true => cases q
    | false =>
      rw [if_neg (by decide)] at q
      split at q
      · rename_i q1
        split at q
        · rename_i hm
          split at q
          · rename_i q2
            cases q
            exact .make (evEs_ok O as _ _ _ _ q1) hm (O.one q2)
          · cases q
        · cases q
      · cases q
  | tm, .meth o m as, σ, h, v, h', q => by
    unfold evE at q
    split at q
    · rename_i q1
      split at q
      · rename_i hg
        split at q
        · rename_i hm
          split at q
          · rename_i hl
            split at q
            · rename_i q2
              split at q
              · rename_i q3
                exact fin_ok rfl (.meth (evE_ok O false o _ _ _ _ q1) hg hm hl (evEs_ok O as _ _ _ _ q2) (O.two q3)) q
              · cases q
            · cases q
          · cases q
        · cases q
      · cases q
    · cases q
  | tm, .bf id as, σ, h, v, h', q => by
    unfold evE at q
    split at q
    · rename_i q1
      split at q
      · rename_i q2
        exact fin_ok rfl (.bf (evEs_ok O as _ _ _ _ q1) q2) q
      · split at q
        · rename_i m
          split at q
          · rename_i hg
            split at q
            · rename_i hm
              split at q
              · rename_i q2
                split at q
                · rename_i hl
                  have bs := evEs_ok O as _ _ _ _ q1
                  cases as with
                  | nil => cases bs
                  | cons a as' =>
                    cases as' with
                    | nil =>
                      cases bs with
                      | esC b1 b2 =>
                        cases b2
                        exact fin_ok rfl (.lenO b1 hg hm (O.one q2) hl.1 hl.2) q
                    | cons _ _ =>
                      cases bs with
                      | esC b1 b2 => cases b2
                · cases q
              · cases q
            · cases q
          · cases q
        · cases q
    · cases q
  | tm, .bm id o as, σ, h, v, h', q => by
    unfold evE at q
    split at q
    · rename_i q1
      split at q
      · rename_i ht
        split at q
        · rename_i q2
          split at q
          · rename_i q3
            exact fin_ok rfl (.bm (evE_ok O false o _ _ _ _ q1) ht (evEs_ok O as _ _ _ _ q2) q3) q
          · cases q
        · cases q
      · cases q
    · cases q
  | tm, .lenset e, σ, h, v, h', q => by
    unfold evE at q
    cases tm with
    | true => cases q
    | false =>
      rw [if_neg (by decide)] at q
      split at q
      · rename_i q1
        split at q
        · rename_i q2
          cases q
          exact .lenset (evE_ok O false e _ _ _ _ q1) q2
        · cases q
      · cases q
  | tm, .lrg a, σ, h, v, h', q => by
    unfold evE at q
    cases tm with
    | true => cases q
    | false =>
      rw [if_neg (by decide)] at q
      split at q
      · rename_i q1
        split at q
        · rename_i hl
          cases q
          exact .lrg (evE_ok O false a _ _ _ _ q1) hl.1 hl.2
        · cases q
      · cases q
  | tm, .lrg2 a b, σ, h, v, h', q => by
    unfold evE at q
    cases tm with
    | true => cases q
    | false =>
      rw [if_neg (by decide)] at q
      split at q
      · rename_i q1
        split at q
        · rename_i q2
          split at q
          · rename_i hl
            cases q
            exact .lrg2 (evE_ok O false a _ _ _ _ q1) (evE_ok O false b _ _ _ _ q2) hl.1 hl.2.1 hl.2.2.1 hl.2.2.2
          · cases q
        · cases q
      · cases q
  | tm, .sub a i, σ, h, v, h', q => by
    unfold evE at q
    split at q
    · rename_i q1
      split at q
      · rename_i q2
        have b1 := evE_ok O false a _ _ _ _ q1
        have b2 := evE_ok O false i _ _ _ _ q2
        split at q
        · rename_i q3
          exact fin_ok rfl (.sub b1 b2 q3) q
        · split at q
          · split at q
            · rename_i hg
              split at q
              · rename_i hk
                split at q
                · rename_i hl
                  exact fin_ok rfl (.subD b1 b2 hg hk hl) q
                · cases q
              · cases q
            · rename_i hg
              split at q
              · rename_i hm
                split at q
                · rename_i q4
                  exact fin_ok rfl (.subO b1 b2 hg hm (O.one q4)) q
                · cases q
              · cases q
            · cases q
          · cases q
      · cases q
    · cases q
  | tm, .slc a b c, σ, h, v, h', q => by
    unfold evE at q
    cases q
  | tm, .rev a, σ, h, v, h', q => by
    unfold evE at q
    cases tm with
    | true => cases q
    | false =>
      rw [if_neg (by decide)] at q
      split at q
      · rename_i q1
        split at q
        · rename_i hg
          cases q
          exact .revL (evE_ok O false a _ _ _ _ q1) hg
        · cases q
      · cases q
  | tm, .tup es, σ, h, v, h', q => by
    unfold evE at q
    cases tm with
    | true => cases q
    | false =>
      rw [if_neg (by decide)] at q
      split at q
      · rename_i q1
        cases q
        exact .tup (evEs_ok O es _ _ _ _ q1)
      · cases q
  | tm, .lst es, σ, h, v, h', q => by
    unfold evE at q
    cases tm with
    | true => cases q
    | false =>
      rw [if_neg (by decide)] at q
      split at q
      · rename_i q1
        cases q
        exact .lst (evEs_ok O es _ _ _ _ q1)
      · cases q
  | tm, .lcomp own elt t it ifs, σ, h, v, h', q => by
    unfold evE at q
    cases tm with
    | true => cases q
    | false =>
      rw [if_neg (by decide)] at q
      split at q
      · rename_i q1
        split at q
        · rename_i q2
          cases q
          exact .lcomp (evI_ok O it _ _ _ _ q1) (cpL_ok (fun v σ h σ' h' z => evG_ok O t v σ h σ' h' z) (fun σ h b h' z => evTs_ok O ifs σ h b h' z) (fun σ h v h' z => evE_ok O false elt σ h v h' z) _ _ _ _ q2)
        · cases q
      · cases q
  | tm, .lcomp2 own vs1 elt t it ifs t1 it1 ifs1, σ, h, v, h', q => by
    unfold evE at q
    cases tm with
    | true => cases q
    | false =>
      rw [if_neg (by decide)] at q
      split at q
      · rename_i q1
        split at q
        · rename_i q2
          cases q
          refine .lcomp2 (evI_ok O it _ _ _ _ q1) (cqL_ok (fun v σ h σ' h' z => evG_ok O t v σ h σ' h' z) (fun σ h b h' z => evTs_ok O ifs σ h b h' z) (fun σ2 h3 h5 z => ?_) _ _ _ _ q2)
          split at z
          · rename_i z1
            exact ⟨_, _, evI_ok O it1 _ _ _ _ z1, cpL_ok (fun v σ h σ' h' z => evG_ok O t1 v σ h σ' h' z) (fun σ h b h' z => evTs_ok O ifs1 σ h b h' z) (fun σ h v h' z => evE_ok O false elt σ h v h' z) _ _ _ _ z⟩
          · cases z
        · cases q
      · cases q
  | tm, .dcomp own kk vv t it ifs, σ, h, v, h', q => by
    unfold evE at q
    cases tm with
    | true => cases q
    | false =>
      rw [if_neg (by decide)] at q
      split at q
      · rename_i q1
        split at q
        · rename_i q2
          cases q
          exact .dcomp (evI_ok O it _ _ _ _ q1) (dpL_ok (fun v σ h σ' h' z => evG_ok O t v σ h σ' h' z) (fun σ h b h' z => evTs_ok O ifs σ h b h' z) (fun σ h v h' z => evE_ok O false kk σ h v h' z) (fun σ h v h' z => evE_ok O false vv σ h v h' z) _ _ _ _ q2)
        · cases q
      · cases q
  | tm, .ife c a b, σ, h, v, h', q => by
    unfold evE at q
    cases tm with
    | true => cases q
    | false =>
      rw [if_neg (by decide)] at q
      split at q
      · rename_i q1
        obtain ⟨x, e, b1⟩ := evE_ok O true c _ _ _ _ q1
        cases e
        exact .ifT b1 (evE_ok O false a _ _ _ _ q)
      · rename_i q1
        obtain ⟨x, e, b1⟩ := evE_ok O true c _ _ _ _ q1
        cases e
        exact .ifF b1 (evE_ok O false b _ _ _ _ q)
      · cases q
theorem evEs_ok (O : OS T d C) : ∀ (es : List ME) (σ : Ev) (h : MH) (vs : List PV) (h' : MH), evEs T C es σ h = some (vs, h') → BS T (.es (d + 2) es σ h vs h')
  | [], σ, h, vs, h', q => by
    unfold evEs at q
    cases q
    exact .esN
  | e :: es, σ, h, vs, h', q => by
    unfold evEs at q
    split at q
    · rename_i q1
      split at q
      · rename_i q2
        cases q
        exact .esC (evE_ok O false e _ _ _ _ q1) (evEs_ok O es _ _ _ _ q2)
      · cases q
    · cases q
theorem evTs_ok (O : OS T d C) : ∀ (es : List ME) (σ : Ev) (h : MH) (b : Bool) (h' : MH), evTs T C es σ h = some (b, h') → BS T (.ts (d + 2) es σ h b h')
  | [], σ, h, b, h', q => by
    unfold evTs at q
    cases q
    exact .tsN
  | [c], σ, h, b, h', q => by
    unfold evTs at q
    split at q
    · rename_i q1
      cases q
      obtain ⟨x, e, b1⟩ := evE_ok O true c _ _ _ _ q1
      cases e
      exact .ts1 b1
    · cases q
  | _ :: _ :: _, σ, h, b, h', q => by
    unfold evTs at q
    cases q
theorem evI_ok (O : OS T d C) : ∀ (it : MI) (σ : Ev) (h : MH) (r : IT) (h' : MH), evI T C it σ h = some (r, h') → BS T (.i (d + 2) it σ h r h')
  | .ex e, σ, h, r, h', q => by
    unfold evI at q
    split at q
    · rename_i q1
      split at q
      · rename_i hg
        cases q
        exact .iL (evE_ok O false e _ _ _ _ q1) hg
      · cases q
    · rename_i q1
      cases q
      exact .iT (evE_ok O false e _ _ _ _ q1)
    · cases q
  | .rg1 a, σ, h, r, h', q => by
    unfold evI at q
    split at q
    · rename_i q1
      split at q
      · rename_i hl
        cases q
        exact .iR1 (evE_ok O false a _ _ _ _ q1) hl.1 hl.2
      · cases q
    · cases q
  | .rg2 a b, σ, h, r, h', q => by
    unfold evI at q
    split at q
    · rename_i q1
      split at q
      · rename_i q2
        split at q
        · rename_i hl
          cases q
          exact .iR2 (evE_ok O false a _ _ _ _ q1) (evE_ok O false b _ _ _ _ q2) hl.1 hl.2.1 hl.2.2.1 hl.2.2.2
        · cases q
      · cases q
    · cases q
  | .enu e, σ, h, r, h', q => by
    unfold evI at q
    split at q
    · rename_i q1
      split at q
      · rename_i hg
        cases q
        exact .iE (evE_ok O false e _ _ _ _ q1) hg
      · cases q
    · cases q
theorem evG_ok (O : OS T d C) : ∀ (t : MT) (v : PV) (σ : Ev) (h : MH) (σ' : Ev) (h' : MH), evG T C t v σ h = some (σ', h') → BS T (.g (d + 2) t v σ h σ' h')
  | .nm i, v, σ, h, σ', h', q => by
    unfold evG at q
    cases q
    exact .gN
  | .tp ts, v, σ, h, σ', h', q => by
    unfold evG at q
    split at q
    · split at q
      · rename_i hl
        exact .gT hl (evGs_ok O ts _ _ _ _ _ q)
      · cases q
    · cases q
  | .at o f, v, σ, h, σ', h', q => by
    unfold evG at q
    split at q
    · rename_i q1
      split at q
      · rename_i hg
        split at q
        · rename_i hl
          cases q
          exact .gA (evE_ok O false o _ _ _ _ q1) hg hl.1 hl.2
        · cases q
      · cases q
    · cases q
  | .ix o i, v, σ, h, σ', h', q => by
    unfold evG at q
    split at q
    · rename_i q1
      split at q
      · rename_i q2
        split at q
        · rename_i q3
          cases q
          exact .gI (evE_ok O false o _ _ _ _ q1) (evE_ok O false i _ _ _ _ q2) q3
        · cases q
      · cases q
    · cases q
theorem evGs_ok (O : OS T d C) : ∀ (ts : List MT) (vs : List PV) (σ : Ev) (h : MH) (σ' : Ev) (h' : MH), evGs T C ts vs σ h = some (σ', h') → BS T (.gs (d + 2) ts vs σ h σ' h')
  | [], [], σ, h, σ', h', q => by
    unfold evGs at q
    cases q
    exact .gsN
  | t :: ts, v :: vs, σ, h, σ', h', q => by
    unfold evGs at q
    split at q
    · rename_i q1
      exact .gsC (evG_ok O t _ _ _ _ _ q1) (evGs_ok O ts _ _ _ _ _ q)
    · cases q
  | [], _ :: _, σ, h, σ', h', q => by
    unfold evGs at q
    cases q
  | _ :: _, [], σ, h, σ', h', q => by
    unfold evGs at q
    cases q
end
end
end Mp
namespace Mp
open PySem PySem.Spec L2
section
variable {T : Tab} {d : Nat} {C : Orc}
theorem foL_ok {g : PV → Ev → MH → Option (Ev × MH)} {b : Ev → MH → Option Fl} {r : IT} {t : MT} {bd : List MS} (hg : ∀ v σ h σ' h', g v σ h = some (σ', h') → BS T (.g (d + 2) t v σ h σ' h')) (hb : ∀ σ h f, b σ h = some f → BS T (.ss (d + 2) bd σ h f)) :
    ∀ (m i : Nat) (σ : Ev) (h : MH) (f : Fl), foL g b r m i σ h = some f → BS T (.fo (d + 2) t r i bd σ h f)
  | 0, i, σ, h, f, q => by cases q
  | m + 1, i, σ, h, f, q => by
    unfold foL at q
    split at q
    · split at q
      · rename_i he
        cases q
        obtain ⟨n, e1, e2⟩ := end_ok he
        exact .foE e1 e2
      · cases q
    · rename_i hx
      split at q
      · cases q
      · rename_i q1
        have b1 := hg _ _ _ _ _ q1
        split at q
        · rename_i q2; exact .foT hx b1 (hb _ _ _ q2) rfl (foL_ok hg hb m _ _ _ _ q)
        · rename_i q2; exact .foT hx b1 (hb _ _ _ q2) rfl (foL_ok hg hb m _ _ _ _ q)
        · rename_i q2; cases q; exact .foB hx b1 (hb _ _ _ q2)
        · rename_i q2; cases q; exact .foO hx b1 (hb _ _ _ q2) rfl
        · rename_i q2; cases q; exact .foO hx b1 (hb _ _ _ q2) rfl
        · cases q
theorem whL_ok {t : Ev → MH → Option (PV × MH)} {b : Ev → MH → Option Fl} {c : ME} {bd : List MS} (ht : ∀ σ h v h', t σ h = some (v, h') → ∃ x, v = .bl x ∧ BS T (.t (d + 2) c σ h x h')) (hb : ∀ σ h f, b σ h = some f → BS T (.ss (d + 2) bd σ h f)) :
    ∀ (m : Nat) (σ : Ev) (h : MH) (f : Fl), whL t b m σ h = some f → BS T (.wh (d + 2) c bd σ h f)
  | 0, σ, h, f, q => by cases q
  | m + 1, σ, h, f, q => by
    unfold whL at q
    split at q
    · rename_i q1
      cases q
      obtain ⟨x, e, b1⟩ := ht _ _ _ _ q1
      cases e
      exact .whE b1
    · rename_i q1
      obtain ⟨x, e, b1⟩ := ht _ _ _ _ q1
      cases e
      split at q
      · rename_i q2; exact .whT b1 (hb _ _ _ q2) rfl (whL_ok ht hb m _ _ _ q)
      · rename_i q2; exact .whT b1 (hb _ _ _ q2) rfl (whL_ok ht hb m _ _ _ q)
      · rename_i q2; cases q; exact .whB b1 (hb _ _ _ q2)
      · rename_i q2; cases q; exact .whO b1 (hb _ _ _ q2) rfl
      · rename_i q2; cases q; exact .whO b1 (hb _ _ _ q2) rfl
      · cases q
    · cases q
theorem evX_ok (O : OS T d C) {e : ME} {σ : Ev} {h h' : MH} {c : Nat} {fs : List (Nat × PV)} (q : evX T C e σ h = some (c, fs, h')) : ∃ f as, e = .call f as ∧ BS T (.x (d + 2) e σ h c fs h') := by
  unfold evX at q
  split at q
  · split at q
    · rename_i q1
      split at q
      · rename_i q2
        cases q
        exact ⟨_, _, rfl, .xcall (evEs_ok O _ _ _ _ _ q1) (O.two q2)⟩
      · cases q
    · cases q
  · cases q
theorem asg_ok {t : MT} {e : ME} {σ σ2 : Ev} {h h1 h2 : MH} {v : PV} (b1 : BS T (.e (d + 2) e σ h v h1)) (b2 : BS T (.g (d + 2) t v σ h1 σ2 h2)) : BS T (.s (d + 2) (.asg t e) σ h (.nx σ2 h2)) := by
  by_cases hp : plainA t e = true
  · exact .asg hp b1 b2
  · cases t with
    | nm i =>
      cases b2
      cases e with
      | lcomp own elt t it ifs =>
        cases b1 with
        | lcomp i1 i2 => exact .asgL i1 i2
      | lcomp2 own vs1 elt t it ifs t1 it1 ifs1 =>
        cases b1 with
        | lcomp2 i1 i2 => exact .asgL2 i1 i2
      | _ => exact absurd rfl hp
    | _ => exact absurd rfl hp
mutual
theorem evS_ok (O : OS T d C) : ∀ (s : MS) (σ : Ev) (h : MH) (f : Fl), evS T C s σ h = some f → BS T (.s (d + 2) s σ h f)
  | .asg t e, σ, h, f, q => by
    unfold evS at q
    split at q
    · rename_i q1
      split at q
      · rename_i q2
        cases q
        exact asg_ok (evE_ok O false e _ _ _ _ q1) (evG_ok O t _ _ _ _ _ q2)
      · cases q
    · split at q
      · rename_i q1
        cases q
        obtain ⟨f, as, rfl, b⟩ := evX_ok O q1
        exact .asgX b
      · cases q
  | .ex e, σ, h, f, q => by
    unfold evS at q
    split at q
    · rename_i q1
      cases q
      exact .exS (evE_ok O false e _ _ _ _ q1)
    · split at q
      · rename_i q1
        cases q
        obtain ⟨f, as, rfl, b⟩ := evX_ok O q1
        exact .exX b
      · cases q
  | .ret e, σ, h, f, q => by
    unfold evS at q
    split at q
    · rename_i q1
      cases q
      exact .ret (evE_ok O false e _ _ _ _ q1)
    · split at q
      · rename_i q1
        cases q
        obtain ⟨f, as, rfl, b⟩ := evX_ok O q1
        exact .retX b
      · cases q
  | .retN, σ, h, f, q => by
    unfold evS at q
    cases q
    exact .retN
  | .ifs c a b, σ, h, f, q => by
    unfold evS at q
    split at q
    · rename_i q1
      obtain ⟨x, e, b1⟩ := evE_ok O true c _ _ _ _ q1
      cases e
      exact .ifsT b1 (evSs_ok O a _ _ _ q)
    · rename_i q1
      obtain ⟨x, e, b1⟩ := evE_ok O true c _ _ _ _ q1
      cases e
      exact .ifsF b1 (evSs_ok O b _ _ _ q)
    · cases q
  | .for t it b, σ, h, f, q => by
    unfold evS at q
    split at q
    · rename_i q1
      exact .forS (evI_ok O it _ _ _ _ q1) (foL_ok (fun v σ h σ' h' z => evG_ok O t v σ h σ' h' z) (fun σ h f z => evSs_ok O b σ h f z) _ _ _ _ _ q)
    · cases q
  | .while c b, σ, h, f, q => by
    unfold evS at q
    exact .whS (whL_ok (fun σ h v h' z => evE_ok O true c σ h v h' z) (fun σ h f z => evSs_ok O b σ h f z) _ _ _ _ q)
  | .raise c as, σ, h, f, q => by
    unfold evS at q
    split at q
    · rename_i hC
      split at q
      · rename_i hx
        split at q
        · rename_i q1
          split at q
          · rename_i hl
            cases q
            exact .raise hC hx (evEs_ok O as _ _ _ _ q1) hl
          · cases q
        · cases q
      · cases q
    · cases q
  | .tryE b c su, σ, h, f, q => by
    unfold evS at q
    split at q
    · rename_i q1
      split at q
      · rename_i hc
        subst hc
        split at q
        · rename_i hr
          cases q
          exact .tryC (evSs_ok O b _ _ _ q1) hr
        · cases q
      · cases q
    · rename_i hne q1
      cases q
      exact .tryK (evSs_ok O b _ _ _ q1) fun c' fs σ h z => by subst z; exact hne c' fs σ h rfl
    · cases q
  | .pass, σ, h, f, q => by unfold evS at q; cases q; exact .pass
  | .brk, σ, h, f, q => by unfold evS at q; cases q; exact .brk
  | .cont, σ, h, f, q => by unfold evS at q; cases q; exact .cont
  | .nev, σ, h, f, q => by unfold evS at q; cases q
theorem evSs_ok (O : OS T d C) : ∀ (ss : List MS) (σ : Ev) (h : MH) (f : Fl), evSs T C ss σ h = some f → BS T (.ss (d + 2) ss σ h f)
  | [], σ, h, f, q => by unfold evSs at q; cases q; exact .ssN
  | s :: ss, σ, h, f, q => by
    unfold evSs at q
    split at q
    · rename_i q1
      exact .ssC (evS_ok O s _ _ _ q1) (evSs_ok O ss _ _ _ q)
    · rename_i hne q1
      cases q
      exact .ssS (evS_ok O s _ _ _ q1) fun σ h z => by subst z; exact hne σ h rfl
    · cases q
end
end
theorem callF_ok (T : Tab) : ∀ n : Nat, OS T (3 * n) (callF T n)
  | 0, f, vs, h, r, q => by cases q
  | n + 1, f, vs, h, r, q => by
    unfold callF at q
    split at q
    · rename_i hF
      split at q
      · rename_i hl
        split at q
        · rename_i q1
          exact BS.cl (d := 3 * n + 2) hF hl (evSs_ok (callF_ok T n) _ _ _ _ q1) q
        · cases q
      · cases q
    · cases q
end Mp
namespace K71
open PySem PySem.Spec L2 Mp
abbrev top (i : Nat) : Stmt := PySem.Challenge.pw_fullseats_k71_rings_of_logs.main.body.getD i (.Pass ⟨0, 0, 0, 0⟩)
def clsM (s : Stmt) (j : Nat) : Stmt := match s with
  | .ClassDef _ _ _ b _ _ _ _ _ _ _ => b.getD j (.Pass ⟨0, 0, 0, 0⟩)
  | _ => .Pass ⟨0, 0, 0, 0⟩
/- 0 law, 1 Run.__init__, 2 Run.__len__, 3 Run.__getitem__, 4 _law_row, 5 _law_cell_at, 6 _law_machines, 7 _law_logs, 8 _law_links, 9 _law_join, 10 _law_meeting, 11 _law_mixed, 12 joined, 13 check_log, 14 check_meeting, 15 all_meetings, 16 is_ready, 17 machines_of -/
def f0 : Fn := ⟨("law" : Str), none, ("law" : Str), top 23, [("_law_script" : Str), ("_law_row_here" : Str), ("_law_machines_here" : Str), ("_law_many" : Str), ("_law_ring" : Str), ("_law_chain" : Str), ("_law_logs_here" : Str), ("_law_one" : Str), ("_law_two" : Str), ("_law_k" : Str)], 1, [
    .asg (.nm 1) (.call 4 [(.call 5 [(.loc 0), (.cst (.int 0))]), (.cst (.int 16))]), 
    .asg (.nm 2) (.call 6 [(.loc 1)]), 
    .asg (.nm 3) (.bf 0 [(.loc 2)]), 
    .asg (.nm 4) (.call 7 [(.call 8 [(.loc 2), (.loc 1), (.cst (.bl true))]), (.loc 3)]), 
    .ifs (.orE (.cmp 9 (.call 9 [(.loc 4)]) (.cst .non)) (.cmp 1 (.loc 4) (.call 7 [(.call 8 [(.loc 2), (.loc 1), (.cst (.bl true))]), (.loc 3)]))) [
      .ret (.cst (.bl false))] [], 
    .asg (.nm 5) (.call 8 [(.loc 2), (.loc 1), (.cst (.bl false))]), 
    .asg (.nm 6) (.call 7 [(.loc 5), (.loc 3)]), 
    .ifs (.cmp 1 (.call 9 [(.loc 6)]) (.rev (.loc 5))) [
      .ret (.cst (.bl false))] [], 
    .asg (.ix (.loc 6) (.sub (.loc 2) (.cst (.int 0)))) (.lst []), 
    .ifs (.cmp 1 (.call 9 [(.loc 6)]) (.rev (.loc 5))) [
      .ret (.cst (.bl false))] [], 
    .asg (.nm 6) (.lcomp [9] (.lst []) (.nm 9) (.rg1 (.loc 3)) []), 
    .asg (.nm 7) (.call 10 [(.tup [(.sub (.loc 2) (.cst (.int 0))), (.cst (.int 0))]), (.tup [(.sub (.loc 2) (.cst (.int 1))), (.cst (.int 0))]), (.cst (.int 0)), (.sub (.loc 1) (.cst (.int 14)))]), 
    .asg (.nm 8) (.call 10 [(.tup [(.sub (.loc 2) (.cst (.int 2))), (.cst (.int 0))]), (.tup [(.sub (.loc 2) (.cst (.int 1))), (.cst (.int 0))]), (.cst (.int 1)), (.sub (.loc 1) (.cst (.int 15)))]), 
    .ex (.bm 10 (.sub (.loc 6) (.sub (.loc 2) (.cst (.int 0)))) [(.loc 7)]), 
    .ifs (.cmp 1 (.call 9 [(.loc 6)]) (.lst [(.loc 7)])) [
      .ret (.cst (.bl false))] [], 
    .ex (.bm 10 (.sub (.loc 6) (.sub (.loc 2) (.cst (.int 2)))) [(.loc 8)]), 
    .ret (.cmp 8 (.call 9 [(.loc 6)]) (.cst .non))]⟩
def f1 : Fn := ⟨("__init__" : Str), some ("Run" : Str), ("Run.__init__" : Str), clsM (top 8) 0, [("self" : Str), ("meetings" : Str)], 2, [
    .asg (.at (.loc 0) 10) (.bf 3 [(.loc 1)])]⟩
def f2 : Fn := ⟨("__len__" : Str), some ("Run" : Str), ("Run.__len__" : Str), clsM (top 8) 2, [("self" : Str)], 1, [
    .ret (.bf 0 [(.fld (.loc 0) 10)])]⟩
def f3 : Fn := ⟨("__getitem__" : Str), some ("Run" : Str), ("Run.__getitem__" : Str), clsM (top 8) 4, [("self" : Str), ("at" : Str)], 2, [
    .ifs (.orE (.cmp 2 (.loc 1) (.cst (.int 0))) (.cmp 5 (.loc 1) (.bf 0 [(.fld (.loc 0) 10)]))) [
      .nev] [], 
    .ret (.sub (.fld (.loc 0) 10) (.loc 1))]⟩
def f4 : Fn := ⟨("_law_row" : Str), none, ("_law_row" : Str), top 17, [("_law_cell" : Str), ("_law_many" : Str), ("_law_rest" : Str), ("_law_row_here" : Str), ("_law_k" : Str)], 2, [
    .asg (.nm 2) (.ife (.cmp 5 (.bf 10 [(.loc 0)]) (.bin 5 (.cst (.int 10)) (.cst (.int 18)))) (.bf 10 [(.loc 0)]) (.cst (.int 0))), 
    .asg (.nm 3) (.lst []), 
    .for (.nm 4) (.rg1 (.loc 1)) [
      .ex (.bm 10 (.loc 3) [(.bin 4 (.bf 2 [(.ife (.cmp 4 (.loc 2) (.cst (.int 0))) (.loc 2) (.call 11 [(.loc 0), (.loc 4)]))]) (.cst (.int 1000)))]), 
      .asg (.nm 2) (.bin 3 (.loc 2) (.cst (.int 1000)))], 
    .ret (.loc 3)]⟩
def f5 : Fn := ⟨("_law_cell_at" : Str), none, ("_law_cell_at" : Str), top 15, [("_law_script" : Str), ("_law_k" : Str)], 2, [
    .ifs (.cmp 2 (.loc 1) (.bf 0 [(.loc 0)])) [
      .ret (.sub (.loc 0) (.loc 1))] [], 
    .ret (.cst (.int 0))]⟩
def f6 : Fn := ⟨("_law_machines" : Str), none, ("_law_machines" : Str), top 18, [("_law_row_here" : Str), ("_law_left" : Str), ("_law_k" : Str)], 1, [
    .asg (.nm 1) (.lrg (.bin 0 (.cst (.int 3)) (.bin 4 (.bf 2 [(.sub (.loc 0) (.cst (.int 0)))]) (.cst (.int 4))))), 
    .ret (.lcomp [2] (.bm 12 (.loc 1) [(.bin 4 (.bf 2 [(.sub (.loc 0) (.bin 0 (.cst (.int 1)) (.loc 2)))]) (.bf 0 [(.loc 1)]))]) (.nm 2) (.rg1 (.bf 0 [(.loc 1)])) [])]⟩
def f7 : Fn := ⟨("_law_logs" : Str), none, ("_law_logs" : Str), top 21, [("_law_meetings" : Str), ("_law_many" : Str), ("_law_logs_here" : Str), ("_law_turn" : Str), ("_law_meeting_here" : Str), ("_law_k" : Str), ("_law_part" : Str)], 2, [
    .asg (.nm 2) (.lcomp [5] (.lst []) (.nm 5) (.rg1 (.loc 1)) []), 
    .for (.nm 3) (.rg1 (.cst (.int 2))) [
      .for (.nm 4) (.ex (.loc 0)) [
        .for (.nm 6) (.ex (.sub (.loc 4) (.cst (.int 1)))) [
          .ifs (.cmp 0 (.sub (.loc 6) (.cst (.int 1))) (.loc 3)) [
            .ex (.bm 10 (.sub (.loc 2) (.sub (.loc 6) (.cst (.int 0)))) [(.loc 4)])] []]]], 
    .ret (.loc 2)]⟩
def f8 : Fn := ⟨("_law_links" : Str), none, ("_law_links" : Str), top 20, [("_law_machines_here" : Str), ("_law_row_here" : Str), ("_law_is_ring" : Str), ("_law_many" : Str), ("_law_found" : Str), ("_law_k" : Str), ("_law_later" : Str), ("_law_turn" : Str)], 3, [
    .asg (.nm 3) (.bf 0 [(.loc 0)]), 
    .asg (.nm 4) (.lst []), 
    .for (.nm 5) (.rg1 (.bin 1 (.loc 3) (.bf 2 [(.not (.loc 2))]))) [
      .asg (.nm 6) (.bin 4 (.bf 2 [(.bin 0 (.loc 5) (.cst (.int 1)))]) (.loc 3)), 
      .asg (.nm 7) (.bf 2 [(.orE (.loc 2) (.cmp 2 (.loc 6) (.bin 1 (.loc 3) (.cst (.int 1)))))]), 
      .ex (.bm 10 (.loc 4) [(.call 10 [(.tup [(.sub (.loc 0) (.loc 5)), (.cst (.int 0))]), (.tup [(.sub (.loc 0) (.loc 6)), (.loc 7)]), (.loc 5), (.sub (.loc 1) (.bin 0 (.cst (.int 8)) (.loc 5)))])])], 
    .ret (.loc 4)]⟩
def f9 : Fn := ⟨("_law_join" : Str), none, ("_law_join" : Str), top 22, [("_law_logs_here" : Str), ("_law_run" : Str), ("_law_k" : Str)], 1, [
    .tryE [
      .asg (.nm 1) (.call 12 [(.loc 0)])] 1 [
      .ret (.cst .non)], 
    .ret (.lcomp [2] (.sub (.loc 1) (.loc 2)) (.nm 2) (.rg1 (.bf 0 [(.loc 1)])) [])]⟩
def f10 : Fn := ⟨("_law_meeting" : Str), none, ("_law_meeting" : Str), top 19, [("_law_first" : Str), ("_law_second" : Str), ("_law_number" : Str), ("_law_draw" : Str), ("_law_parts" : Str)], 4, [
    .asg (.nm 4) (.lst [(.bin 0 (.loc 0) (.tup [(.bin 4 (.bf 2 [(.loc 3)]) (.cst (.int 3))), (.bin 1 (.loc 3) (.cst (.int 400)))])), (.bin 0 (.loc 1) (.tup [(.bin 4 (.bin 3 (.loc 3) (.cst (.int 3))) (.cst (.int 3))), (.bin 3 (.loc 3) (.cst (.int 2)))]))]), 
    .ifs (.cmp 0 (.bin 4 (.bin 3 (.loc 3) (.cst (.int 9))) (.cst (.int 2))) (.cst (.int 1))) [
      .asg (.nm 4) (.rev (.loc 4))] [], 
    .ret (.tup [(.tup [(.bin 4 (.bin 3 (.loc 3) (.cst (.int 18))) (.cst (.int 3))), (.loc 2), (.cst (.int 2))]), (.bf 4 [(.loc 4)])])]⟩
def f11 : Fn := ⟨("_law_mixed" : Str), none, ("_law_mixed" : Str), top 16, [("_law_cell" : Str), ("_law_k" : Str), ("_law_spread" : Str)], 2, [
    .asg (.nm 2) (.bin 4 (.bf 2 [(.bin 5 (.bin 0 (.bin 0 (.bin 4 (.bf 2 [(.loc 0)]) (.cst (.int 2147483647))) (.bin 2 (.cst (.int 7919)) (.loc 1))) (.cst (.int 104729))) (.cst (.int 5)))]) (.cst (.int 2147483647))), 
    .ret (.bin 4 (.bf 2 [(.bin 2 (.bin 0 (.loc 2) (.loc 1)) (.cst (.int 40692)))]) (.cst (.int 2147483629)))]⟩
def f12 : Fn := ⟨("joined" : Str), none, ("joined" : Str), top 13, [("logs" : Str), ("machine" : Str), ("log" : Str), ("left" : Str), ("rows" : Str), ("meeting" : Str), ("ready" : Str), ("least" : Str)], 1, [
    .for (.nm 1) (.rg1 (.bf 0 [(.loc 0)])) [
      .ex (.call 13 [(.loc 0), (.loc 1)])], 
    .for (.nm 2) (.ex (.loc 0)) [
      .for (.nm 5) (.ex (.loc 2)) [
        .ex (.call 14 [(.loc 0), (.loc 5)])]], 
    .asg (.nm 3) (.call 15 [(.loc 0)]), 
    .asg (.nm 4) (.lst []), 
    .while (.loc 3) [
      .asg (.nm 6) (.lcomp [5] (.loc 5) (.nm 5) (.ex (.loc 3)) [(.call 16 [(.loc 5), (.loc 3)])]), 
      .ifs (.not (.loc 6)) [
        .raise 1 []] [], 
      .asg (.nm 7) (.bf 12 [(.loc 6)]), 
      .ex (.bm 10 (.loc 4) [(.loc 7)]), 
      .asg (.nm 3) (.lcomp [5] (.loc 5) (.nm 5) (.ex (.loc 3)) [(.cmp 1 (.loc 5) (.loc 7))])], 
    .ret (.make 0 [(.loc 4)])]⟩
def f13 : Fn := ⟨("check_log" : Str), none, ("check_log" : Str), top 9, [("logs" : Str), ("machine" : Str), ("turn" : Str), ("meeting" : Str), ("part" : Str)], 2, [
    .for (.tp [(.nm 2), (.nm 3)]) (.enu (.sub (.loc 0) (.loc 1))) [
      .ifs (.not (.bf 9 [(.lcomp [4] (.andE (.cmp 0 (.sub (.loc 4) (.cst (.int 0))) (.loc 1)) (.cmp 0 (.sub (.loc 4) (.cst (.int 1))) (.loc 2))) (.nm 4) (.ex (.sub (.loc 3) (.cst (.int 1)))) [])])) [
        .raise 1 []] []]]⟩
def f14 : Fn := ⟨("check_meeting" : Str), none, ("check_meeting" : Str), top 10, [("logs" : Str), ("meeting" : Str), ("machine" : Str), ("turn" : Str), ("place" : Str), ("worth" : Str)], 2, [
    .ifs (.cmp 1 (.lenset (.call 17 [(.loc 1)])) (.bf 0 [(.sub (.loc 1) (.cst (.int 1)))])) [
      .raise 1 []] [], 
    .for (.tp [(.nm 2), (.nm 3), (.nm 4), (.nm 5)]) (.ex (.sub (.loc 1) (.cst (.int 1)))) [
      .ifs (.orE (.cmp 2 (.loc 2) (.cst (.int 0))) (.orE (.cmp 5 (.loc 2) (.bf 0 [(.loc 0)])) (.orE (.cmp 2 (.loc 3) (.cst (.int 0))) (.cmp 4 (.loc 3) (.bf 0 [(.sub (.loc 0) (.loc 2))]))))) [
        .raise 1 []] [], 
      .ifs (.andE (.cmp 2 (.loc 3) (.bf 0 [(.sub (.loc 0) (.loc 2))])) (.cmp 1 (.sub (.sub (.loc 0) (.loc 2)) (.loc 3)) (.loc 1))) [
        .raise 1 []] []]]⟩
def f15 : Fn := ⟨("all_meetings" : Str), none, ("all_meetings" : Str), top 11, [("logs" : Str), ("found" : Str), ("log" : Str), ("taken" : Str), ("meeting" : Str), ("part" : Str)], 1, [
    .asg (.nm 1) (.lst []), 
    .for (.nm 2) (.ex (.loc 0)) [
      .for (.nm 4) (.ex (.loc 2)) [
        .ifs (.cmp 7 (.loc 4) (.loc 1)) [
          .ex (.bm 10 (.loc 1) [(.loc 4)])] []]], 
    .asg (.nm 3) (.lcomp2 [4, 5] [5] (.tup [(.sub (.loc 5) (.cst (.int 0))), (.sub (.loc 5) (.cst (.int 1)))]) (.nm 4) (.ex (.loc 1)) [] (.nm 5) (.ex (.sub (.loc 4) (.cst (.int 1)))) []), 
    .ifs (.cmp 1 (.lenset (.loc 3)) (.bf 0 [(.loc 3)])) [
      .raise 1 []] [], 
    .ret (.loc 1)]⟩
def f16 : Fn := ⟨("is_ready" : Str), none, ("is_ready" : Str), top 12, [("meeting" : Str), ("left" : Str), ("turns" : Str), ("part" : Str), ("other" : Str)], 2, [
    .asg (.nm 2) (.dcomp [3] (.sub (.loc 3) (.cst (.int 0))) (.sub (.loc 3) (.cst (.int 1))) (.nm 3) (.ex (.sub (.loc 0) (.cst (.int 1)))) []), 
    .ret (.not (.bf 9 [(.lcomp2 [4, 3] [3] (.andE (.cmp 6 (.sub (.loc 3) (.cst (.int 0))) (.loc 2)) (.cmp 2 (.sub (.loc 3) (.cst (.int 1))) (.sub (.loc 2) (.sub (.loc 3) (.cst (.int 0)))))) (.nm 4) (.ex (.loc 1)) [] (.nm 3) (.ex (.sub (.loc 4) (.cst (.int 1)))) [])]))]⟩
def f17 : Fn := ⟨("machines_of" : Str), none, ("machines_of" : Str), top 6, [("meeting" : Str), ("part" : Str)], 1, [
    .ret (.lcomp [1] (.sub (.loc 1) (.cst (.int 0))) (.nm 1) (.ex (.sub (.loc 0) (.cst (.int 1)))) [])]⟩
def fns : List Fn := [f0, f1, f2, f3, f4, f5, f6, f7, f8, f9, f10, f11, f12, f13, f14, f15, f16, f17]
def cls : List Cl := [⟨("Run" : Str), [(0, 1), (4, 2), (5, 3)], [10], none⟩, ⟨("NoJoin" : Str), [], [], some []⟩]
def nms : List Str := [("__init__" : Str), ("_1" : Str), ("_2" : Str), ("__iter__" : Str), ("__len__" : Str), ("__getitem__" : Str), ("__setitem__" : Str), ("__contains__" : Str), ("__call__" : Str), ("__eq__" : Str), ("rows" : Str)]
def T : Tab := ⟨nms, fns, cls⟩
def exs : List ExT := [⟨1, ("SeatsError" : Str), ⟨("__init__" : Str), some ("NoJoin" : Str), ("NoJoin.__init__" : Str), clsM (top 4) 0, [("self" : Str)], 1, []⟩⟩]
theorem b0 : BindOk f0 := fun _ _ _ _ _ _ us hl => match us, hl with | [_], _ => rfl
theorem b1 : BindOk f1 := fun _ _ _ _ _ _ us hl => match us, hl with | [_, _], _ => rfl
theorem b2 : BindOk f2 := fun _ _ _ _ _ _ us hl => match us, hl with | [_], _ => rfl
theorem b3 : BindOk f3 := fun _ _ _ _ _ _ us hl => match us, hl with | [_, _], _ => rfl
theorem b4 : BindOk f4 := fun _ _ _ _ _ _ us hl => match us, hl with | [_, _], _ => rfl
theorem b5 : BindOk f5 := fun _ _ _ _ _ _ us hl => match us, hl with | [_, _], _ => rfl
theorem b6 : BindOk f6 := fun _ _ _ _ _ _ us hl => match us, hl with | [_], _ => rfl
theorem b7 : BindOk f7 := fun _ _ _ _ _ _ us hl => match us, hl with | [_, _], _ => rfl
theorem b8 : BindOk f8 := fun _ _ _ _ _ _ us hl => match us, hl with | [_, _, _], _ => rfl
theorem b9 : BindOk f9 := fun _ _ _ _ _ _ us hl => match us, hl with | [_], _ => rfl
theorem b10 : BindOk f10 := fun _ _ _ _ _ _ us hl => match us, hl with | [_, _, _, _], _ => rfl
theorem b11 : BindOk f11 := fun _ _ _ _ _ _ us hl => match us, hl with | [_, _], _ => rfl
theorem b12 : BindOk f12 := fun _ _ _ _ _ _ us hl => match us, hl with | [_], _ => rfl
theorem b13 : BindOk f13 := fun _ _ _ _ _ _ us hl => match us, hl with | [_, _], _ => rfl
theorem b14 : BindOk f14 := fun _ _ _ _ _ _ us hl => match us, hl with | [_, _], _ => rfl
theorem b15 : BindOk f15 := fun _ _ _ _ _ _ us hl => match us, hl with | [_], _ => rfl
theorem b16 : BindOk f16 := fun _ _ _ _ _ _ us hl => match us, hl with | [_, _], _ => rfl
theorem b17 : BindOk f17 := fun _ _ _ _ _ _ us hl => match us, hl with | [_], _ => rfl
theorem bfns : AllF T.fns := .cons b0 (.cons b1 (.cons b2 (.cons b3 (.cons b4 (.cons b5 (.cons b6 (.cons b7 (.cons b8 (.cons b9 (.cons b10 (.cons b11 (.cons b12 (.cons b13 (.cons b14 (.cons b15 (.cons b16 (.cons b17 (.nil))))))))))))))))))
theorem be0 : BindOk (exs.map (·.fn))[0] := fun _ _ _ _ _ _ us hl => match us, hl with | [_], _ => rfl
theorem bexs : AllF (exs.map (·.fn)) := .cons be0 (.nil)
theorem tab_ok : tabB T exs = true := by kernel_rfl
def ln0 : List Str := [("_wall" : Str), ("SeatsError" : Str), ("NoMeeting" : Str), ("NoJoin" : Str), ("machines_of" : Str), ("times" : Str), ("Run" : Str), ("check_log" : Str), ("check_meeting" : Str), ("all_meetings" : Str), ("is_ready" : Str), ("joined" : Str), ("_law_cell_at" : Str), ("_law_mixed" : Str), ("_law_row" : Str), ("_law_machines" : Str), ("_law_meeting" : Str), ("_law_links" : Str), ("_law_logs" : Str), ("_law_join" : Str)]
def loose : List Str := ln0
abbrev R : PySem.W.OpenRow := PySem.W.OpenLaw.row PySem.Challenge.rw_fullseats_k71_rings_of_logs
abbrev hk : PySem.W.Hook := hookM T exs 5
theorem run (w : World) : HandSHeadRun.RunEq R (PySem.W.view R.prog [23]) hk (obM T exs 5) 3000 loose w := by
  intro os
  kernel_rfl
end K71
namespace K71
open PySem PySem.Spec L2 Mp
theorem fn5 : T.fns[5]? = some f5 := rfl
theorem fn11 : T.fns[11]? = some f11 := rfl
theorem s5 (n : Nat) (ns : List Int) (h : MH) : callF T (n + 1) 5 [.fz (ns.map .int), .int 0] h = some (.ok (.int (ns.getD 0 0)) h) := by
  unfold callF
  rw [fn5]
  cases ns with
  | nil => simp [f5, evSs, evS, evE, evEs, finV, bfn, cmpR, cmpV, intCmp, Fl.res]
  | cons a r =>
    have e : (0 : Int) < (r.length : Int) + 1 := by omega
    simp [f5, evSs, evS, evE, evEs, finV, bfn, cmpR, cmpV, intCmp, Fl.res, subV, atV, atI, ixN, e]
theorem s11 (n : Nat) (c k : Int) (h : MH) (h0 : 0 ≤ k) (h1 : k < 100) : ∃ z, callF T (n + 1) 11 [.int c, .int k] h = some (.ok (.int z) h) := by
  unfold callF
  rw [fn11]
  have e1 : 0 ≤ c.fmod 2147483647 := Int.fmod_nonneg_of_pos _ (by decide)
  have e2 : c.fmod 2147483647 < 2147483647 := Int.fmod_lt_of_pos _ (by decide)
  have e3 : (c.fmod 2147483647 + 7919 * k + 104729).natAbs < 18446744073709551616 := by omega
  simp [f11, evSs, evS, evE, evEs, evG, finV, bfn, cmpR, cmpV, intCmp, Fl.res, binV, e3]
end K71
namespace K71
open PySem PySem.Spec L2 Mp
/-- only new objects, or the ones at R -/
def Grow (R : List Nat) (h h' : MH) : Prop := h.nx ≤ h'.nx ∧ ∀ m, m < h.nx → m ∉ R → h'.get m = h.get m
theorem Grow.refl (R : List Nat) (h : MH) : Grow R h h := ⟨Nat.le_refl _, fun _ _ _ => rfl⟩
theorem Grow.trans {R : List Nat} {a b c : MH} (x : Grow R a b) (y : Grow R b c) : Grow R a c := ⟨Nat.le_trans x.1 y.1, fun m h1 h2 => (y.2 m (Nat.lt_of_lt_of_le h1 x.1) h2).trans (x.2 m h1 h2)⟩
def bd4 : List MS := [
      .ex (.bm 10 (.loc 3) [(.bin 4 (.bf 2 [(.ife (.cmp 4 (.loc 2) (.cst (.int 0))) (.loc 2) (.call 11 [(.loc 0), (.loc 4)]))]) (.cst (.int 1000)))]), 
      .asg (.nm 2) (.bin 3 (.loc 2) (.cst (.int 1000)))]
theorem row_turn (n : Nat) (c rest k : Int) (R : Nat) (o : Option PV) (h : MH) (row : List PV) (hr : h.get R = some (.lst row)) (hl : row.length < 100) (k0 : 0 ≤ k) (k1 : k < 100) :
    ∃ x : Int, 0 ≤ x ∧ x < 1000 ∧ evSs T (callF T (n + 1)) bd4 [some (.int c), some (.int 16), some (.int rest), some (.ref R), some (.int k)] h = some (.nx [some (.int c), some (.int 16), some (.int (rest.fdiv 1000)), some (.ref R), some (.int k)] (h.put R (.lst (row ++ [.int x])))) := by
  have hb : row.length < big := by unfold big; omega
  by_cases hp : 0 < rest
  · refine ⟨rest.fmod 1000, Int.fmod_nonneg_of_pos _ (by decide), Int.fmod_lt_of_pos _ (by decide), ?_⟩
    simp [bd4, evSs, evS, evE, evEs, evG, finV, bfn, bmn, tyB, cmpR, cmpV, intCmp, binV, hr, hb, hp]
  · obtain ⟨z, hz⟩ := s11 n c k h k0 k1
    refine ⟨z.fmod 1000, Int.fmod_nonneg_of_pos _ (by decide), Int.fmod_lt_of_pos _ (by decide), ?_⟩
    simp [bd4, evSs, evS, evE, evEs, evG, finV, bfn, bmn, tyB, cmpR, cmpV, intCmp, binV, hr, hb, hp, hz]
end K71
namespace K71
open PySem PySem.Spec L2 Mp
def Small (row : List PV) : Prop := ∀ x ∈ row, ∃ z : Int, x = .int z ∧ 0 ≤ z ∧ z < 1000
theorem row_loop (n : Nat) (c : Int) (R : Nat) : ∀ (m i : Nat) (fu : Nat) (rest : Int) (o : Option PV) (row : List PV) (h : MH), i + m = 16 → m < fu → h.get R = some (.lst row) → row.length = i → Small row →
    ∃ rest' o' row' h', foL (evG T (callF T (n + 1)) (.nm 4)) (evSs T (callF T (n + 1)) bd4) (.rng 0 16) fu i [some (.int c), some (.int 16), some (.int rest), some (.ref R), o] h = some (.nx [some (.int c), some (.int 16), some (.int rest'), some (.ref R), o'] h') ∧
      h'.get R = some (.lst row') ∧ row'.length = 16 ∧ Small row' ∧ h'.nx = h.nx ∧ ∀ k, k ≠ R → h'.get k = h.get k
  | 0, i, fu, rest, o, row, h, hm, hf, hg, hl, hs => by
    obtain ⟨fu, rfl⟩ : ∃ f, fu = f + 1 := ⟨fu - 1, by omega⟩
    have hi : i = 16 := by omega
    subst hi
    exact ⟨rest, o, row, h, by simp [foL, IT.at, endL, IT.len], hg, hl, hs, rfl, fun _ _ => rfl⟩
  | m + 1, i, fu, rest, o, row, h, hm, hf, hg, hl, hs => by
    obtain ⟨fu, rfl⟩ : ∃ f, fu = f + 1 := ⟨fu - 1, by omega⟩
    have hi : i < 16 := by omega
    obtain ⟨x, x0, x1, hx⟩ := row_turn n c rest (0 + (i : Nat)) R (some (.int i)) h row hg (by omega) (by omega) (by omega)
    obtain ⟨rest', o', row', h', q1, q2, q3, q4, q5, q6⟩ := row_loop n c R m (i + 1) fu (rest.fdiv 1000) (some (.int (0 + (i : Nat)))) (row ++ [.int x]) (h.put R (.lst (row ++ [.int x]))) (by omega) (by omega) MH.put_same (by simp [hl]) (fun y hy => by
      rcases List.mem_append.mp hy with hy | hy
      · exact hs y hy
      · rw [List.mem_singleton.mp hy]
        exact ⟨x, rfl, x0, x1⟩)
    refine ⟨rest', o', row', h', ?_, q2, q3, q4, q5, fun k hk => (q6 k hk).trans (MH.put_ne hk)⟩
    unfold foL
    have e1 : (IT.rng 0 16).at h i = some (.int (0 + (i : Nat))) := by simp [IT.at, hi]
    rw [e1]
    simp only [evG, List.set_cons_succ, List.set_cons_zero, hx]
    exact q1
end K71
namespace Mp
open PySem PySem.Spec L2
section
variable {T : Tab} {C : Orc} {s : MS} {ss : List MS} {σ σ1 : Ev} {h h1 : MH} {f : Fl}
theorem ssc (e : evS T C s σ h = some (.nx σ1 h1)) (e2 : evSs T C ss σ1 h1 = some f) : evSs T C (s :: ss) σ h = some f := by
  unfold evSs
  rw [e]
  exact e2
theorem ssr {v : PV} (e : evS T C s σ h = some (.rt v h1)) : evSs T C (s :: ss) σ h = some (.rt v h1) := by
  unfold evSs
  rw [e]
theorem forc {t : MT} {it : MI} {b : List MS} {r : IT} (e : evI T C it σ h = some (r, h1)) (e2 : foL (evG T C t) (evSs T C b) r LF 0 σ h1 = some f) : evS T C (.for t it b) σ h = some f := by
  unfold evS
  rw [e]
  exact e2
end
theorem callc {T : Tab} {n f : Nat} {vs : List PV} {h : MH} {F : Fn} {fl : Fl} {r : Res} (hF : T.fns[f]? = some F) (hl : vs.length = F.k) (e : evSs T (callF T n) F.body (vs.map some ++ List.replicate (F.N.length - vs.length) none) h = some fl) (hr : fl.res = some r) : callF T (n + 1) f vs h = some r := by
  unfold callF
  rw [hF]
  simp only [hl, if_true]
  rw [hl] at e
  rw [e]
  exact hr
end Mp
namespace K71
open PySem PySem.Spec L2 Mp
theorem fn4 : T.fns[4]? = some f4 := rfl
theorem s4 (n : Nat) (c : Int) (h : MH) : ∃ row h', callF T (n + 2) 4 [.int c, .int 16] h = some (.ok (.ref h.nx) h') ∧ h'.get h.nx = some (.lst row) ∧ row.length = 16 ∧ Small row ∧ h.nx < h'.nx ∧ ∀ k, k < h.nx → h'.get k = h.get k := by
  have e1 : ∃ z : Int, evS T (callF T (n + 1)) (.asg (.nm 2) (.ife (.cmp 5 (.bf 10 [(.loc 0)]) (.bin 5 (.cst (.int 10)) (.cst (.int 18)))) (.bf 10 [(.loc 0)]) (.cst (.int 0)))) [some (.int c), some (.int 16), none, none, none] h = some (.nx [some (.int c), some (.int 16), some (.int z), none, none] h) := by
    by_cases hc : (1000000000000000000 : Int) ≤ (if c < 0 then -c else c)
    · exact ⟨if c < 0 then -c else c, by simp [evS, evE, evEs, evG, finV, bfn, cmpR, cmpV, intCmp, binV, truthV, hc]⟩
    · exact ⟨0, by simp [evS, evE, evEs, evG, finV, bfn, cmpR, cmpV, intCmp, binV, truthV, hc]⟩
  obtain ⟨z, e1⟩ := e1
  obtain ⟨rest', o', row', h', q1, q2, q3, q4, q5, q6⟩ := row_loop n c h.nx 16 0 LF z none [] (h.new (.lst [])) rfl (by decide) MH.new_same rfl (fun y hy => by cases hy)
  refine ⟨row', h', ?_, q2, q3, q4, by rw [q5]; exact Nat.lt_succ_self _, fun k hk => (q6 k (Nat.ne_of_lt hk)).trans (MH.new_ne (Nat.ne_of_lt hk))⟩
  refine callc fn4 rfl (ssc e1 (ssc (σ1 := [some (.int c), some (.int 16), some (.int z), some (.ref h.nx), none]) (h1 := h.new (.lst [])) (by simp [evS, evE, evEs, evG]) (ssc (forc (r := .rng 0 16) (h1 := h.new (.lst [])) (by simp [evI, evE, finV]) q1) (ssr (v := .ref h.nx) (h1 := h') (by simp [evS, evE, finV]))))) rfl
end K71
namespace Mp
open PySem PySem.Spec L2
theorem data_int (h : MH) (i : Int) : dataM h (.int i) = some (.int i) := rfl
theorem cmp0_int (i j : Int) (h : MH) : cmpV 0 (.int i) (.int j) h = some (i == j) := by
  show (match dataM h (.int i), dataM h (.int j) with
    | some d, some e => some (PyData.eqv d e)
    | _, _ => none) = _
  rw [data_int, data_int]
  simp [PyData.eqv]
end Mp
namespace K71
open PySem PySem.Spec L2 Mp
theorem fn10 : T.fns[10]? = some f10 := rfl
def pA (a t w : Int) : PV := .tup [.int a, .int t, .int (w.fmod 3), .int (w - 400)]
def pB (a t w : Int) : PV := .tup [.int a, .int t, .int ((w.fdiv 3).fmod 3), .int (w.fdiv 2)]
def fl (w : Int) : Bool := (w.fdiv 9).fmod 2 == 1
def mt (a t b u k w : Int) : PV := .tup [.tup [.int ((w.fdiv 18).fmod 3), .int k, .int 2], .tup (if fl w = true then [pB b u w, pA a t w] else [pA a t w, pB b u w])]
theorem s10 (n : Nat) (a t b u k w : Int) (h : MH) : ∃ h', callF T (n + 1) 10 [.tup [.int a, .int t], .tup [.int b, .int u], .int k, .int w] h = some (.ok (mt a t b u k w) h') ∧ h.nx ≤ h'.nx ∧ ∀ m, m < h.nx → h'.get m = h.get m := by
  have n1 : ∀ m, m < h.nx → (h.new (.lst [pA a t w, pB b u w])).get m = h.get m := fun m hm => MH.new_ne (Nat.ne_of_lt hm)
  have st1 : evS T (callF T n) (.asg (.nm 4) (.lst [(.bin 0 (.loc 0) (.tup [(.bin 4 (.bf 2 [(.loc 3)]) (.cst (.int 3))), (.bin 1 (.loc 3) (.cst (.int 400)))])), (.bin 0 (.loc 1) (.tup [(.bin 4 (.bin 3 (.loc 3) (.cst (.int 3))) (.cst (.int 3))), (.bin 3 (.loc 3) (.cst (.int 2)))]))]))
      [some (.tup [.int a, .int t]), some (.tup [.int b, .int u]), some (.int k), some (.int w), none] h = some (.nx [some (.tup [.int a, .int t]), some (.tup [.int b, .int u]), some (.int k), some (.int w), some (.ref h.nx)] (h.new (.lst [pA a t w, pB b u w]))) := by
    simp [evS, evE, evEs, evG, finV, bfn, binV, pA, pB, big]
  by_cases hf : fl w = true
  · refine ⟨(h.new (.lst [pA a t w, pB b u w])).new (.lst [pB b u w, pA a t w]), ?_, by show h.nx ≤ h.nx + 1 + 1; omega, fun m hm => (MH.new_ne (by show m ≠ h.nx + 1; omega)).trans (n1 m hm)⟩
    have hf' : (w.fdiv 9).fmod 2 = 1 := by unfold fl at hf; exact eq_of_beq hf
    refine callc fn10 rfl (ssc st1 (ssc (σ1 := [some (.tup [.int a, .int t]), some (.tup [.int b, .int u]), some (.int k), some (.int w), some (.ref (h.nx + 1))]) (h1 := (h.new (.lst [pA a t w, pB b u w])).new (.lst [pB b u w, pA a t w])) ?_ (ssr (v := mt a t b u k w) (h1 := (h.new (.lst [pA a t w, pB b u w])).new (.lst [pB b u w, pA a t w])) ?_))) rfl
    · simp [evS, evSs, evE, evEs, evG, finV, bfn, binV, cmpR, cmp0_int, hf', MH.new_same]
      rfl
    · have g1 : ((h.new (.lst [pA a t w, pB b u w])).new (.lst [pB b u w, pA a t w])).get (h.nx + 1) = some (.lst [pB b u w, pA a t w]) := MH.new_same
      simp [evS, evE, evEs, finV, bfn, binV, g1, mt, hf]
  · refine ⟨h.new (.lst [pA a t w, pB b u w]), ?_, by show h.nx ≤ h.nx + 1; omega, n1⟩
    have hf' : ((w.fdiv 9).fmod 2 == 1) = false := Bool.eq_false_iff.mpr hf
    refine callc fn10 rfl (ssc st1 (ssc (σ1 := [some (.tup [.int a, .int t]), some (.tup [.int b, .int u]), some (.int k), some (.int w), some (.ref h.nx)]) (h1 := h.new (.lst [pA a t w, pB b u w])) ?_ (ssr (v := mt a t b u k w) (h1 := h.new (.lst [pA a t w, pB b u w])) ?_))) rfl
    · simp [evS, evSs, evE, evEs, evG, finV, bfn, binV, cmpR, cmp0_int, hf']
    · have g1 : (h.new (.lst [pA a t w, pB b u w])).get h.nx = some (.lst [pA a t w, pB b u w]) := MH.new_same
      simp [evS, evE, evEs, finV, bfn, binV, g1, mt, hf]
end K71
namespace K71
open PySem PySem.Spec L2 Mp
theorem fn6 : T.fns[6]? = some f6 := rfl
def e6 : ME := .bm 12 (.loc 1) [(.bin 4 (.bf 2 [(.sub (.loc 0) (.bin 0 (.cst (.int 1)) (.loc 2)))]) (.bf 0 [(.loc 1)]))]
theorem getSmall {row : List PV} (hs : Small row) {i : Nat} (hi : i < row.length) : ∃ z : Int, row[i]? = some (.int z) ∧ 0 ≤ z ∧ z < 1000 := by
  obtain ⟨z, e, h1, h2⟩ := hs row[i] (List.getElem_mem hi)
  exact ⟨z, by rw [List.getElem?_eq_getElem hi, e], h1, h2⟩
theorem erase_map : ∀ (l : List Int) (j : Nat), (l.map PV.int).eraseIdx j = (l.eraseIdx j).map PV.int
  | [], _ => rfl
  | _ :: _, 0 => rfl
  | a :: r, j + 1 => by
    show PV.int a :: (r.map PV.int).eraseIdx j = PV.int a :: (r.eraseIdx j).map PV.int
    rw [erase_map r j]
theorem pop_turn (n : Nat) (A L i : Nat) (h : MH) (row : List PV) (left : List Int) (hr : h.get A = some (.lst row)) (hs : Small row) (hrl : row.length = 16) (hg : h.get L = some (.lst (left.map .int))) (hl : 0 < left.length) (hb : left.length < 16) (hi : i < 15) :
    ∃ j x, j < left.length ∧ left[j]? = some x ∧ evE T (callF T n) false e6 [some (.ref A), some (.ref L), some (.int (0 + (i : Nat)))] h = some (.int x, h.put L (.lst ((left.eraseIdx j).map .int))) := by
  obtain ⟨z, hz, z0, z1⟩ := getSmall hs (i := 1 + i) (by omega)
  have hlpos : (0 : Int) < (left.length : Nat) := by omega
  have m0 : 0 ≤ z.fmod (left.length : Nat) := Int.fmod_nonneg_of_pos _ hlpos
  have m1 : z.fmod (left.length : Nat) < (left.length : Nat) := Int.fmod_lt_of_pos _ hlpos
  refine ⟨(z.fmod (left.length : Nat)).toNat, left[(z.fmod (left.length : Nat)).toNat]'(by omega), by omega, List.getElem?_eq_getElem (by omega), ?_⟩
  have a1 : atI row (1 + (i : Int)) = some (.int z) := by
    unfold atI ixN
    rw [if_pos (by omega), if_pos (by omega)]
    show row[(1 + (i : Int)).toNat]? = _
    rw [show (1 + (i : Int)).toNat = 1 + i by omega]
    exact hz
  have b1 : ixN left.length (z.fmod (left.length : Nat)) = some (z.fmod (left.length : Nat)).toNat := by
    unfold ixN
    rw [if_pos m0, if_pos m1]
  have c1 : ¬ left.length = 0 := by omega
  have c2 : left.length < big := by unfold big; omega
  have c3 : left ≠ [] := fun z => by rw [z] at hl; exact absurd hl (by decide)
  have d1 : left[(z.fmod (left.length : Nat)).toNat]? = some (left[(z.fmod (left.length : Nat)).toNat]'(by omega)) := List.getElem?_eq_getElem (by omega)
  simp [e6, evE, evEs, finV, tyB, hg, hr, bfn, binV, subV, atV, a1, bmn, b1, c1, c2, c3, d1, erase_map]
end K71
namespace K71
open PySem PySem.Spec L2 Mp
/-! ### meetings -/
structure Pa where
  (a t p q : Int)
structure Me where
  (c k : Int) (x y : Pa)
def Pa.pv (z : Pa) : PV := .tup [.int z.a, .int z.t, .int z.p, .int z.q]
def Me.pv (m : Me) : PV := .tup [.tup [.int m.c, .int m.k, .int 2], .tup [m.x.pv, m.y.pv]]
def Pa.dt (z : Pa) : PyData := .tuple [.int z.a, .int z.t, .int z.p, .int z.q]
def Me.dt (m : Me) : PyData := .tuple [.tuple [.int m.c, .int m.k, .int 2], .tuple [m.x.dt, m.y.dt]]
theorem Me.pyd (h : MH) (m : Me) (n : Nat) : pydM h (n + 4) m.pv = some m.dt := rfl
theorem Me.can (m : Me) : m.dt.canLay0 = true := by simp [Me.dt, Pa.dt, PyData.canLay0, PyData.canLayAll0]
theorem Me.dep (m : Me) : m.dt.depth = 3 := by simp [Me.dt, Pa.dt, PyData.depth, PyData.depthAll]
theorem Me.data (h : MH) (m : Me) : dataM h m.pv = some m.dt := by
  unfold dataM
  rw [Me.pyd h m 36]
  simp [SeqAt.shaped, Me.can, Me.dep]
theorem Me.eqv_self (m : Me) : PyData.eqv m.dt m.dt = true := PySem.SeqAt.eqv_refl _ m.can
theorem Me.eqv_ne {m m' : Me} (e : m.k ≠ m'.k) : PyData.eqv m.dt m'.dt = false := by
  have e2 : (m.k == m'.k) = false := beq_eq_false_iff_ne.mpr e
  simp [Me.dt, PyData.eqv, PyData.eqvAll, e2]
/-- keys tell meetings apart -/
def Key2 (m m' : Me) : Prop := m.k = m'.k → m = m'
theorem Me.eqv {m m' : Me} (e : Key2 m m') : PyData.eqv m.dt m'.dt = decide (m.k = m'.k) := by
  by_cases z : m.k = m'.k
  · rw [← e z, Me.eqv_self]
    simp
  · rw [Me.eqv_ne z]
    simp [z]
theorem cmp0_me {m m' : Me} (e : Key2 m m') (h : MH) : cmpV 0 m.pv m'.pv h = some (decide (m.k = m'.k)) := by
  show (match dataM h m.pv, dataM h m'.pv with
    | some d, some e => some (PyData.eqv d e)
    | _, _ => none) = _
  rw [Me.data, Me.data]
  show some (PyData.eqv m.dt m'.dt) = _
  rw [Me.eqv e]
theorem cmp1_me {m m' : Me} (e : Key2 m m') (h : MH) : cmpV 1 m.pv m'.pv h = some (!decide (m.k = m'.k)) := by
  show (match dataM h m.pv, dataM h m'.pv with
    | some d, some e => some (!PyData.eqv d e)
    | _, _ => none) = _
  rw [Me.data, Me.data]
  show some (!PyData.eqv m.dt m'.dt) = _
  rw [Me.eqv e]
theorem cmp1_int (i j : Int) (h : MH) : cmpV 1 (.int i) (.int j) h = some (!(i == j)) := by
  show (match dataM h (.int i), dataM h (.int j) with
    | some d, some e => some (!PyData.eqv d e)
    | _, _ => none) = _
  rw [data_int, data_int]
  simp [PyData.eqv]
/-! ### lists of meetings -/
theorem mapO_map {α β γ : Type} {f : α → Option β} {g : γ → α} {k : γ → β} (e : ∀ z, f (g z) = some (k z)) : ∀ l : List γ, mapO f (l.map g) = some (l.map k)
  | [] => rfl
  | a :: r => by
    show (match f (g a) with
      | some d => (match mapO f (r.map g) with | some ds => some (d :: ds) | none => none)
      | none => none) = _
    rw [e, mapO_map e r]
    rfl
theorem cans : ∀ l : List Me, PyData.canLayAll0 (l.map Me.dt) = true
  | [] => rfl
  | a :: r => by simp [PyData.canLayAll0, Me.can, cans r]
theorem deps : ∀ l : List Me, PyData.depthAll (l.map Me.dt) ≤ 3
  | [] => by simp [PyData.depthAll]
  | a :: r => by
    have := deps r
    simp [PyData.depthAll, Me.dep]
    omega
def dl (l : List Me) : PyData := .list (l.map Me.dt)
theorem dl_can (l : List Me) : (dl l).canLay0 = true := by simp [dl, PyData.canLay0, cans]
theorem dl_dep (l : List Me) : (dl l).depth ≤ 4 := by
  have := deps l
  simp [dl, PyData.depth]
  omega
theorem pyd_list {h : MH} {r : Nat} {l : List Me} (e : h.get r = some (.lst (l.map Me.pv))) (n : Nat) : pydM h (n + 5) (.ref r) = some (dl l) := by
  show (match h.get r with
      | some (.lst xs) => (mapO (pydM h (n + 4)) xs).map PyData.list
      | _ => none) = _
  rw [e]
  show (mapO (pydM h (n + 4)) (l.map Me.pv)).map PyData.list = _
  rw [mapO_map (fun m => Me.pyd h m n) l]
  rfl
theorem data_list {h : MH} {r : Nat} {l : List Me} (e : h.get r = some (.lst (l.map Me.pv))) : dataM h (.ref r) = some (dl l) := by
  unfold dataM
  rw [pyd_list e 35]
  have := dl_dep l
  simp [SeqAt.shaped, dl_can]
  omega
theorem cmp1_lists {h : MH} {r r' : Nat} {l : List Me} (e : h.get r = some (.lst (l.map Me.pv))) (e' : h.get r' = some (.lst (l.map Me.pv))) : cmpV 1 (.ref r) (.ref r') h = some false := by
  show (match dataM h (.ref r), dataM h (.ref r') with
    | some d, some e => some (!PyData.eqv d e)
    | _, _ => none) = _
  rw [data_list e, data_list e']
  show some (!PyData.eqv (dl l) (dl l)) = _
  rw [PySem.SeqAt.eqv_refl _ (dl_can l)]
  rfl
theorem any_key {l : List Me} {m : Me} (e : ∀ z ∈ l, Key2 z m) : (l.map Me.dt).any (fun z => PyData.eqv z m.dt) = l.any fun z => decide (z.k = m.k) := by
  induction l with
  | nil => rfl
  | cons a r ih =>
    simp only [List.map_cons, List.any_cons]
    rw [Me.eqv (e a (List.mem_cons_self ..)), ih (fun z hz => e z (List.mem_cons_of_mem _ hz))]
theorem cmp7_me {h : MH} {r : Nat} {l : List Me} {m : Me} (e : h.get r = some (.lst (l.map Me.pv))) (k : ∀ z ∈ l, Key2 z m) : cmpV 7 m.pv (.ref r) h = some (!(l.any fun z => decide (z.k = m.k))) := by
  show (inV m.pv (.ref r) h).map (!·) = _
  have : inV m.pv (.ref r) h = some (l.any fun z => decide (z.k = m.k)) := by
    show (match h.get r with
      | some (.lst xs) => match dataM h m.pv, dataM h (.ref r) with
        | some d, some (.list ds) => some (ds.any fun z => PyData.eqv z d)
        | _, _ => none
      | _ => none) = _
    rw [e, Me.data, data_list e]
    show some ((l.map Me.dt).any fun z => PyData.eqv z m.dt) = _
    rw [any_key k]
  rw [this]
  rfl
/-! ### logs -/
structure Lg (h : MH) (L n : Nat) (lg : Nat → List Me) (rs : List Nat) : Prop where
  len : rs.length = n
  top : h.get L = some (.lst (rs.map .ref))
  lt : L < h.nx
  ap : L ∉ rs
  nd : rs.Nodup
  at' : ∀ (i r : Nat), rs[i]? = some r → r < h.nx ∧ h.get r = some (.lst ((lg i).map Me.pv))
theorem Lg.grow {h h' : MH} {L n : Nat} {lg : Nat → List Me} {rs : List Nat} (g : Lg h L n lg rs) (e : Grow [] h h') : Lg h' L n lg rs :=
  ⟨g.len, (e.2 L g.lt (by simp)).trans g.top, Nat.lt_of_lt_of_le g.lt e.1, g.ap, g.nd, fun i r z => ⟨Nat.lt_of_lt_of_le (g.at' i r z).1 e.1, (e.2 r (g.at' i r z).1 (by simp)).trans (g.at' i r z).2⟩⟩
theorem Lg.get {h : MH} {L n : Nat} {lg : Nat → List Me} {rs : List Nat} (g : Lg h L n lg rs) {i : Nat} (hi : i < n) : ∃ r, rs[i]? = some r ∧ r < h.nx ∧ h.get r = some (.lst ((lg i).map Me.pv)) := by
  have hl : i < rs.length := by rw [g.len]; exact hi
  exact ⟨rs[i], List.getElem?_eq_getElem hl, g.at' i rs[i] (List.getElem?_eq_getElem hl)⟩
/-- a log is written -/
theorem Lg.write {h : MH} {L n : Nat} {lg : Nat → List Me} {rs : List Nat} (g : Lg h L n lg rs) {i r : Nat} (hr : rs[i]? = some r) (l : List Me) : Lg (h.put r (.lst (l.map Me.pv))) L n (fun j => if j = i then l else lg j) rs := by
  have hne : L ≠ r := fun z => g.ap (by rw [z]; exact List.mem_of_getElem? hr)
  refine ⟨g.len, (MH.put_ne hne).trans g.top, g.lt, g.ap, g.nd, fun j r' z => ⟨(g.at' j r' z).1, ?_⟩⟩
  by_cases e : j = i
  · subst e
    rw [hr] at z
    cases z
    rw [if_pos rfl]
    exact MH.put_same
  · rw [if_neg e]
    refine (MH.put_ne fun q => e ?_).trans (g.at' j r' z).2
    subst q
    have h1 := (List.getElem?_eq_some_iff.mp z).2
    have h2 := (List.getElem?_eq_some_iff.mp hr).2
    exact (List.getElem_inj g.nd).mp (h1.trans h2.symm)
theorem Lg.congr {h : MH} {L n : Nat} {lg lg' : Nat → List Me} {rs : List Nat} (g : Lg h L n lg rs) (e : ∀ i, i < n → lg i = lg' i) : Lg h L n lg' rs :=
  ⟨g.len, g.top, g.lt, g.ap, g.nd, fun i r z => ⟨(g.at' i r z).1, by rw [← e i (by rw [← g.len]; exact (List.getElem?_eq_some_iff.mp z).1)]; exact (g.at' i r z).2⟩⟩
theorem pyd_logs {h : MH} {n : Nat} {lg : Nat → List Me} : ∀ (rs : List Nat) (b : Nat), (∀ (i r : Nat), rs[i]? = some r → h.get r = some (.lst ((lg (b + i)).map Me.pv))) → mapO (pydM h (n + 5)) (rs.map .ref) = some ((List.range' b rs.length).map fun i => dl (lg i))
  | [], _, _ => rfl
  | r :: rs, b, g => by
    simp only [List.map_cons, mapO]
    rw [pyd_list (g 0 r rfl) n, pyd_logs rs (b + 1) (fun i r' z => by
      have := g (i + 1) r' (by simpa using z)
      rw [show b + 1 + i = b + (i + 1) by omega]
      exact this)]
    rfl
def dlg (n : Nat) (lg : Nat → List Me) : PyData := .list ((List.range' 0 n).map fun i => dl (lg i))
theorem dlg_can (lg : Nat → List Me) : ∀ l : List Nat, PyData.canLayAll0 (l.map fun i => dl (lg i)) = true
  | [] => rfl
  | a :: r => by simp [PyData.canLayAll0, dl_can, dlg_can lg r]
theorem dlg_dep (lg : Nat → List Me) : ∀ l : List Nat, PyData.depthAll (l.map fun i => dl (lg i)) ≤ 4
  | [] => by simp [PyData.depthAll]
  | a :: r => by
    have h1 := dlg_dep lg r
    have h2 := dl_dep (lg a)
    simp [PyData.depthAll]
    omega
theorem data_logs {h : MH} {L n : Nat} {lg : Nat → List Me} {rs : List Nat} (g : Lg h L n lg rs) : dataM h (.ref L) = some (dlg n lg) := by
  have e : pydM h 40 (.ref L) = some (dlg n lg) := by
    show (match h.get L with
      | some (.lst xs) => (mapO (pydM h 39) xs).map PyData.list
      | _ => none) = _
    rw [g.top]
    show (mapO (pydM h (34 + 5)) (rs.map .ref)).map PyData.list = _
    rw [pyd_logs (lg := lg) rs 0 (fun i r z => by rw [Nat.zero_add]; exact (g.at' i r z).2), g.len]
    rfl
  unfold dataM
  rw [e]
  have h1 := dlg_dep lg (List.range' 0 n)
  have h2 := dlg_can lg (List.range' 0 n)
  have h3 : SeqAt.shaped (dlg n lg) = true := by
    simp [SeqAt.shaped, dlg, PyData.canLay0, PyData.depth, h2]
    omega
  simp [h3]
theorem cmp1_logs {h : MH} {L L' n : Nat} {lg : Nat → List Me} {rs rs' : List Nat} (g : Lg h L n lg rs) (g' : Lg h L' n lg rs') : cmpV 1 (.ref L) (.ref L') h = some false := by
  show (match dataM h (.ref L), dataM h (.ref L') with
    | some d, some e => some (!PyData.eqv d e)
    | _, _ => none) = _
  rw [data_logs g, data_logs g']
  show some (!PyData.eqv (dlg n lg) (dlg n lg)) = _
  rw [PySem.SeqAt.eqv_refl _ (by simp [dlg, PyData.canLay0, dlg_can])]
  rfl
end K71
namespace Mp
open PySem PySem.Spec L2
section
variable {g : PV → Ev → MH → Option (Ev × MH)} {ts : Ev → MH → Option (Bool × MH)} {own : List Nat} {r : IT} {D : Nat} {σ : Ev}
theorem foL_run {b : Ev → MH → Option Fl} {n : Nat} (P : Nat → Ev → MH → Prop)
    (step : ∀ i σ h, i < n → P i σ h → ∃ x σ1 h1 σ2 h2, r.at h i = some x ∧ g x σ h = some (σ1, h1) ∧ b σ1 h1 = some (.nx σ2 h2) ∧ P (i + 1) σ2 h2)
    (fin : ∀ σ h, P n σ h → r.at h n = none ∧ endL r n h = true) :
    ∀ (m i fu : Nat) (σ : Ev) (h : MH), i + m = n → m < fu → P i σ h → ∃ σ' h', foL g b r fu i σ h = some (.nx σ' h') ∧ P n σ' h'
  | 0, i, fu, σ, h, hm, hf, hp => by
    obtain ⟨fu, rfl⟩ : ∃ f, fu = f + 1 := ⟨fu - 1, by omega⟩
    have e : i = n := by omega
    subst e
    obtain ⟨q1, q2⟩ := fin σ h hp
    refine ⟨σ, h, ?_, hp⟩
    unfold foL
    rw [q1]
    simp [q2]
  | m + 1, i, fu, σ, h, hm, hf, hp => by
    obtain ⟨fu, rfl⟩ : ∃ f, fu = f + 1 := ⟨fu - 1, by omega⟩
    obtain ⟨x, σ1, h1, σ2, h2, q1, q2, q3, q4⟩ := step i σ h (by omega) hp
    obtain ⟨σ', h', z1, z2⟩ := foL_run P step fin m (i + 1) fu σ2 h2 (by omega) (by omega) q4
    refine ⟨σ', h', ?_, z2⟩
    unfold foL
    rw [q1]
    simp only [q2, q3]
    exact z1
theorem cqL_run {inner : Ev → MH → Option MH} {n : Nat} (P : Nat → MH → Prop)
    (step : ∀ i h, i < n → P i h → ∃ x σ2 h2 h3 h5, r.at h i = some x ∧ g x (wipeM own σ) h = some (σ2, h2) ∧ ts σ2 h2 = some (true, h3) ∧ inner σ2 h3 = some h5 ∧ P (i + 1) h5)
    (fin : ∀ h, P n h → r.at h n = none ∧ endL r n h = true) :
    ∀ (m i fu : Nat) (h : MH), i + m = n → m < fu → P i h → ∃ h', cqL g ts own r σ inner fu i h = some h' ∧ P n h'
  | 0, i, fu, h, hm, hf, hp => by
    obtain ⟨fu, rfl⟩ : ∃ f, fu = f + 1 := ⟨fu - 1, by omega⟩
    have e : i = n := by omega
    subst e
    obtain ⟨q1, q2⟩ := fin h hp
    refine ⟨h, ?_, hp⟩
    unfold cqL
    rw [q1]
    simp [q2]
  | m + 1, i, fu, h, hm, hf, hp => by
    obtain ⟨fu, rfl⟩ : ∃ f, fu = f + 1 := ⟨fu - 1, by omega⟩
    obtain ⟨x, σ2, h2, h3, h5, q1, q2, q3, q4, q5⟩ := step i h (by omega) hp
    obtain ⟨h', z1, z2⟩ := cqL_run P step fin m (i + 1) fu h5 (by omega) (by omega) q5
    refine ⟨h', ?_, z2⟩
    unfold cqL
    rw [q1]
    simp only [q2, q3, q4]
    exact z1
theorem cpL_run {ee : Ev → MH → Option (PV × MH)} {n : Nat} (P : Nat → MH → Prop)
    (step : ∀ i h, i < n → P i h → ∃ x σ2 h2 h3, r.at h i = some x ∧ g x (wipeM own σ) h = some (σ2, h2) ∧
      ((ts σ2 h2 = some (false, h3) ∧ P (i + 1) h3) ∨ ∃ v h4 acc, ts σ2 h2 = some (true, h3) ∧ ee σ2 h3 = some (v, h4) ∧ h4.get D = some (.lst acc) ∧ acc.length < big ∧ P (i + 1) (h4.put D (.lst (acc ++ [v])))))
    (fin : ∀ h, P n h → r.at h n = none ∧ endL r n h = true) :
    ∀ (m i fu : Nat) (h : MH), i + m = n → m < fu → P i h → ∃ h', cpL g ts own r D σ ee fu i h = some h' ∧ P n h'
  | 0, i, fu, h, hm, hf, hp => by
    obtain ⟨fu, rfl⟩ : ∃ f, fu = f + 1 := ⟨fu - 1, by omega⟩
    have e : i = n := by omega
    subst e
    obtain ⟨q1, q2⟩ := fin h hp
    refine ⟨h, ?_, hp⟩
    unfold cpL
    rw [q1]
    simp [q2]
  | m + 1, i, fu, h, hm, hf, hp => by
    obtain ⟨fu, rfl⟩ : ∃ f, fu = f + 1 := ⟨fu - 1, by omega⟩
    obtain ⟨x, σ2, h2, h3, q1, q2, q3⟩ := step i h (by omega) hp
    rcases q3 with ⟨q3, q4⟩ | ⟨v, h4, acc, q3, q4, q5, q6, q7⟩
    · obtain ⟨h', z1, z2⟩ := cpL_run P step fin m (i + 1) fu h3 (by omega) (by omega) q4
      refine ⟨h', ?_, z2⟩
      unfold cpL
      rw [q1]
      simp only [q2, q3]
      exact z1
    · obtain ⟨h', z1, z2⟩ := cpL_run P step fin m (i + 1) fu _ (by omega) (by omega) q7
      refine ⟨h', ?_, z2⟩
      unfold cpL
      rw [q1]
      simp only [q2, q3, q4, q5, q6, if_true]
      exact z1
end
theorem callw {T : Tab} {n f : Nat} {vs : List PV} {h : MH} {F : Fn} {fl : Fl} {r : Res} (σ : Ev) (hF : T.fns[f]? = some F) (hl : vs.length = F.k) (hσ : vs.map some ++ List.replicate (F.N.length - vs.length) none = σ) (e : evSs T (callF T n) F.body σ h = some fl) (hr : fl.res = some r) : callF T (n + 1) f vs h = some r :=
  callc hF hl (by rw [hσ]; exact e) hr
theorem LF3 : LF = 3997 + 1 + 1 + 1 := rfl
end Mp
namespace K71
open PySem PySem.Spec L2 Mp
theorem Grow.new {h0 h : MH} {R : List Nat} {o : MO} (g : Grow R h0 h) : Grow R h0 (h.new o) := g.trans ⟨Nat.le_succ _, fun m hm _ => MH.new_ne (Nat.ne_of_lt hm)⟩
theorem Grow.put {h0 h : MH} {D : Nat} {o : MO} (g : Grow [] h0 h) (hD : h0.nx ≤ D) : Grow [] h0 (h.put D o) :=
  ⟨g.1, fun m hm _ => (MH.put_ne (by omega)).trans (g.2 m hm (by simp))⟩
theorem fn17 : T.fns[17]? = some f17 := rfl
theorem s17 (n : Nat) (m : Me) (h : MH) : ∃ h', callF T (n + 1) 17 [m.pv] h = some (.ok (.ref h.nx) h') ∧ h'.get h.nx = some (.lst [.int m.x.a, .int m.y.a]) ∧ h.nx < h'.nx ∧ Grow [] h h' := by
  refine ⟨((h.new (.lst [])).put h.nx (.lst [.int m.x.a])).put h.nx (.lst [.int m.x.a, .int m.y.a]), ?_, MH.put_same, Nat.lt_succ_self _, ((Grow.refl [] h).new.put (Nat.le_refl _)).put (Nat.le_refl _)⟩
  refine callw [some m.pv, none] fn17 rfl rfl (ssr (v := .ref h.nx) (h1 := ((h.new (.lst [])).put h.nx (.lst [.int m.x.a])).put h.nx (.lst [.int m.x.a, .int m.y.a])) ?_) rfl
  simp [evS, evE, evEs, evI, evG, evTs, finV, Me.pv, Pa.pv, subV, atV, atI, ixN, LF3, cpL, wipeM, IT.at, endL, IT.len, MH.new_same, MH.put_same, big]
end K71
namespace K71
open PySem PySem.Spec L2 Mp
/-! ### the plain law -/
def Has (m : Me) (a t : Int) : Prop := (m.x.a = a ∧ m.x.t = t) ∨ (m.y.a = a ∧ m.y.t = t)
def Lk (m : Me) (a t b u : Int) : Prop := (m.x.a = a ∧ m.x.t = t ∧ m.y.a = b ∧ m.y.t = u) ∨ (m.x.a = b ∧ m.x.t = u ∧ m.y.a = a ∧ m.y.t = t)
theorem Lk.has {m : Me} {a t b u : Int} (l : Lk m a t b u) {c v : Int} : Has m c v ↔ (c = a ∧ v = t) ∨ (c = b ∧ v = u) := by
  unfold Has
  rcases l with ⟨h1, h2, h3, h4⟩ | ⟨h1, h2, h3, h4⟩ <;> rw [h1, h2, h3, h4] <;> constructor <;> intro z <;> rcases z with ⟨z1, z2⟩ | ⟨z1, z2⟩ <;> simp [z1, z2]
theorem Lk.two {m : Me} {a t b u : Int} (l : Lk m a t b u) (ab : a ≠ b) : m.x.a ≠ m.y.a := by
  rcases l with ⟨h1, h2, h3, h4⟩ | ⟨h1, h2, h3, h4⟩ <;> rw [h1, h3]
  · exact ab
  · exact ab.symm
def hit (i τ : Int) (m : Me) : List Me := (if m.x.a = i ∧ m.x.t = τ then [m] else []) ++ (if m.y.a = i ∧ m.y.t = τ then [m] else [])
theorem hit_no {i τ : Int} {m : Me} (h : ¬ Has m i τ) : hit i τ m = [] := by
  unfold hit
  rw [if_neg fun z => h (.inl z), if_neg fun z => h (.inr z)]
  rfl
theorem hit_yes {i τ : Int} {m : Me} (h : Has m i τ) (two : m.x.a ≠ m.y.a) : hit i τ m = [m] := by
  unfold hit
  rcases h with h | h
  · rw [if_pos h, if_neg fun z => two (h.1.trans z.1.symm)]
    rfl
  · rw [if_neg fun z => two (z.1.trans h.1.symm), if_pos h]
    rfl
def lgP (ms : List Me) (i : Nat) : List Me := ms.flatMap (hit i 0) ++ ms.flatMap (hit i 1)
structure Ok (n : Nat) (lg : Nat → List Me) : Prop where
  two : ∀ i, i < n → ∀ m ∈ lg i, m.x.a ≠ m.y.a
  own : ∀ i, i < n → ∀ (t : Nat) (m : Me), (lg i)[t]? = some m → Has m i t
  fit : ∀ i, i < n → ∀ m ∈ lg i, ∀ a t, Has m a t → 0 ≤ a ∧ a < n ∧ 0 ≤ t ∧ t ≤ (lg a.toNat).length ∧ ∀ z, (lg a.toNat)[t.toNat]? = some z → z = m
  key : ∀ i j, i < n → j < n → ∀ m ∈ lg i, ∀ m' ∈ lg j, Key2 m m'
  sz : ∀ i, i < n → (lg i).length ≤ 2
def blk (m o : Me) : Bool := [o.x, o.y].any fun z => (decide (z.a = m.x.a) && decide (z.t < m.x.t)) || (decide (z.a = m.y.a) && decide (z.t < m.y.t))
theorem blk_iff {m o : Me} : blk m o = true ↔ ∃ a t t', Has m a t ∧ Has o a t' ∧ t' < t := by
  unfold blk Has
  simp only [List.any_cons, List.any_nil, Bool.or_false, Bool.or_eq_true, Bool.and_eq_true, decide_eq_true_eq]
  constructor
  · rintro ((⟨h1, h2⟩ | ⟨h1, h2⟩) | (⟨h1, h2⟩ | ⟨h1, h2⟩))
    · exact ⟨_, _, _, .inl ⟨rfl, rfl⟩, .inl ⟨h1, rfl⟩, h2⟩
    · exact ⟨_, _, _, .inr ⟨rfl, rfl⟩, .inl ⟨h1, rfl⟩, h2⟩
    · exact ⟨_, _, _, .inl ⟨rfl, rfl⟩, .inr ⟨h1, rfl⟩, h2⟩
    · exact ⟨_, _, _, .inr ⟨rfl, rfl⟩, .inr ⟨h1, rfl⟩, h2⟩
  · rintro ⟨a, t, t', (⟨h1, h2⟩ | ⟨h1, h2⟩), (⟨h3, h4⟩ | ⟨h3, h4⟩), h5⟩ <;> subst h1 <;> subst h2 <;> subst h4 <;> simp [h3, h5]
def rdy (F : List Me) (m : Me) : Bool := !(F.any (blk m))
inductive Drain : List Me → Option (List Me) → Prop
  | nil : Drain [] (some [])
  | stuck {F} (h0 : F ≠ []) (h : F.filter (rdy F) = []) : Drain F none
  | step {F m r} (h : F.filter (rdy F) = [m]) (d : Drain (F.filter fun z => !decide (z.k = m.k)) r) : Drain F (r.map (m :: ·))
def pts (m : Me) : List (List Int) := [[m.x.a, m.x.t], [m.y.a, m.y.t]]
theorem mem_pts {m : Me} {z : List Int} : z ∈ pts m ↔ ∃ a t, z = [a, t] ∧ Has m a t := by
  unfold pts Has
  simp only [List.mem_cons, List.not_mem_nil, or_false]
  constructor
  · rintro (h | h)
    · exact ⟨_, _, h, .inl ⟨rfl, rfl⟩⟩
    · exact ⟨_, _, h, .inr ⟨rfl, rfl⟩⟩
  · rintro ⟨a, t, h, (⟨h1, h2⟩ | ⟨h1, h2⟩)⟩ <;> subst h1 <;> subst h2
    · exact .inl h
    · exact .inr h
theorem taken_nodup : ∀ {F : List Me}, F.Nodup → (∀ m ∈ F, m.x.a ≠ m.y.a) → (∀ m ∈ F, ∀ m' ∈ F, ∀ a t, Has m a t → Has m' a t → m = m') → (F.flatMap pts).Nodup
  | [], _, _, _ => by simp
  | a :: r, h1, h2, h3 => by
    rw [List.flatMap_cons]
    refine List.nodup_append.mpr ⟨?_, taken_nodup (List.nodup_cons.mp h1).2 (fun m hm => h2 m (List.mem_cons_of_mem _ hm)) (fun m hm m' hm' => h3 m (List.mem_cons_of_mem _ hm) m' (List.mem_cons_of_mem _ hm')), ?_⟩
    · have := h2 a (List.mem_cons_self ..)
      simp [pts, this]
    · intro u hu v hv e
      subst e
      obtain ⟨b, hb, hv⟩ := List.mem_flatMap.mp hv
      obtain ⟨c, t, e1, q1⟩ := mem_pts.mp hu
      obtain ⟨c', t', e2, q2⟩ := mem_pts.mp hv
      subst e1
      have e3 : c = c' ∧ t = t' := by simpa using e2
      rw [← e3.1, ← e3.2] at q2
      have := h3 a (List.mem_cons_self ..) b (List.mem_cons_of_mem _ hb) c t q1 q2
      subst this
      exact (List.nodup_cons.mp h1).1 hb
theorem taken_dup : ∀ {F : List Me} {m m' : Me} {a t : Int}, m ∈ F → m' ∈ F → m ≠ m' → Has m a t → Has m' a t → ¬ (F.flatMap pts).Nodup
  | [], _, _, _, _, h, _, _, _, _ => by cases h
  | b :: r, m, m', a, t, h1, h2, ne, q1, q2 => by
    rw [List.flatMap_cons]
    intro z
    obtain ⟨_, z2, z3⟩ := List.nodup_append.mp z
    rcases List.mem_cons.mp h1 with e1 | e1
    · rcases List.mem_cons.mp h2 with e2 | e2
      · exact ne (e1.trans e2.symm)
      · subst e1
        exact z3 _ (mem_pts.mpr ⟨a, t, rfl, q1⟩) _ (List.mem_flatMap.mpr ⟨m', e2, mem_pts.mpr ⟨a, t, rfl, q2⟩⟩) rfl
    · rcases List.mem_cons.mp h2 with e2 | e2
      · subst e2
        exact z3 _ (mem_pts.mpr ⟨a, t, rfl, q2⟩) _ (List.mem_flatMap.mpr ⟨m, e1, mem_pts.mpr ⟨a, t, rfl, q1⟩⟩) rfl
      · exact taken_dup e1 e2 ne q1 q2 z2
theorem filter_one {F : List Me} {p : Me → Bool} {m : Me} : F.Nodup → m ∈ F → p m = true → (∀ z ∈ F, p z = true → z = m) → F.filter p = [m] := by
  induction F with
  | nil => intro _ h; cases h
  | cons a r ih =>
    intro nd hm hp hu
    rw [List.filter_cons]
    by_cases ha : p a = true
    · rw [if_pos ha]
      have e := hu a (List.mem_cons_self ..) ha
      subst e
      have : r.filter p = [] := List.filter_eq_nil_iff.mpr fun z hz pz => by
        have := hu z (List.mem_cons_of_mem _ hz) pz
        subst this
        exact (List.nodup_cons.mp nd).1 hz
      rw [this]
    · rw [if_neg ha]
      rcases List.mem_cons.mp hm with e | e
      · subst e
        exact absurd hp ha
      · exact ih (List.nodup_cons.mp nd).2 e hp fun z hz => hu z (List.mem_cons_of_mem _ hz)
theorem flat0 {f : Me → List Me} {M : Nat → Me} : ∀ n, (∀ k, k < n → f (M k) = []) → ((List.range n).map M).flatMap f = []
  | 0, _ => rfl
  | n + 1, h => by
    rw [List.range_succ, List.map_append, List.flatMap_append, flat0 n fun k hk => h k (by omega)]
    simp [h n (by omega)]
theorem flat1 {f : Me → List Me} {M : Nat → Me} : ∀ n j, j < n → (∀ k, k < n → k ≠ j → f (M k) = []) → ((List.range n).map M).flatMap f = f (M j)
  | 0, _, h, _ => by omega
  | n + 1, j, h, q => by
    rw [List.range_succ, List.map_append, List.flatMap_append]
    by_cases e : j = n
    · subst e
      rw [flat0 j fun k hk => q k (by omega) (by omega)]
      simp
    · rw [flat1 n j (by omega) fun k hk => q k (by omega)]
      simp [q n (by omega) (fun z => e z.symm)]
/-- an order of n machines -/
structure Ord (n : Nat) (p : Nat → Int) : Prop where
  lo : ∀ j, j < n → 0 ≤ p j
  hi : ∀ j, j < n → p j < n
  inj : ∀ i j, i < n → j < n → p i = p j → i = j
  ge : 3 ≤ n
  le : n ≤ 6
/-- logs by places in the order -/
structure Pl (n : Nat) (p : Nat → Int) (lg : Nat → List Me) (L : Nat → List Me) : Prop where
  at' : ∀ j, j < n → lg (p j).toNat = L j
  no : ∀ i, i < n → (∀ j, j < n → p j ≠ i) → lg i = []
theorem Pl.cases {n : Nat} {p : Nat → Int} {lg L : Nat → List Me} (P : Pl n p lg L) (O : Ord n p) {i : Nat} (hi : i < n) : lg i = [] ∨ ∃ j, j < n ∧ p j = i ∧ lg i = L j := by
  by_cases z : ∃ j, j < n ∧ p j = i
  · obtain ⟨j, hj, e⟩ := z
    refine .inr ⟨j, hj, e, ?_⟩
    rw [← P.at' j hj, e]
    rfl
  · exact .inl (P.no i hi fun j hj e => z ⟨j, hj, e⟩)
theorem Ok.of {n : Nat} {p : Nat → Int} {lg L : Nat → List Me} (O : Ord n p) (P : Pl n p lg L)
    (two : ∀ j, j < n → ∀ m ∈ L j, m.x.a ≠ m.y.a)
    (own : ∀ j, j < n → ∀ (t : Nat) (m : Me), (L j)[t]? = some m → Has m (p j) t)
    (fit : ∀ j, j < n → ∀ m ∈ L j, ∀ a t, Has m a t → ∃ i, i < n ∧ a = p i ∧ 0 ≤ t ∧ t ≤ (L i).length ∧ ∀ z, (L i)[t.toNat]? = some z → z = m)
    (key : ∀ i j, i < n → j < n → ∀ m ∈ L i, ∀ m' ∈ L j, Key2 m m')
    (sz : ∀ j, j < n → (L j).length ≤ 2) : Ok n lg := by
  refine ⟨fun i hi m hm => ?_, fun i hi t m hm => ?_, fun i hi m hm a t ha => ?_, fun i j hi hj m hm m' hm' => ?_, fun i hi => ?_⟩
  · rcases P.cases O hi with e | ⟨j, hj, e1, e⟩
    · rw [e] at hm; cases hm
    · exact two j hj m (by rw [← e]; exact hm)
  · rcases P.cases O hi with e | ⟨j, hj, e1, e⟩
    · rw [e] at hm; cases hm
    · rw [← e1]; exact own j hj t m (by rw [← e]; exact hm)
  · rcases P.cases O hi with e | ⟨j, hj, e1, e⟩
    · rw [e] at hm; cases hm
    · obtain ⟨i', h1, h2, h3, h4, h5⟩ := fit j hj m (by rw [← e]; exact hm) a t ha
      subst h2
      rw [P.at' i' h1]
      exact ⟨O.lo i' h1, O.hi i' h1, h3, h4, h5⟩
  · rcases P.cases O hi with e | ⟨i', hi', e1, e⟩
    · rw [e] at hm; cases hm
    · rcases P.cases O hj with e' | ⟨j', hj', e1', e'⟩
      · rw [e'] at hm'; cases hm'
      · exact key i' j' hi' hj' m (by rw [← e]; exact hm) m' (by rw [← e']; exact hm')
  · rcases P.cases O hi with e | ⟨j, hj, e1, e⟩
    · rw [e]; simp
    · rw [e]; exact sz j hj
/-! ### the ring -/
structure Links (N n : Nat) (p : Nat → Int) (s : Nat → Nat) (u : Nat → Int) (M : Nat → Me) : Prop where
  lk : ∀ k, k < N → Lk (M k) (p k) 0 (p (s k)) (u k)
  key : ∀ k, k < N → (M k).k = k
theorem Links.inj {N n : Nat} {p : Nat → Int} {s : Nat → Nat} {u : Nat → Int} {M : Nat → Me} (l : Links N n p s u M) {i j : Nat} (hi : i < N) (hj : j < N) : Key2 (M i) (M j) := by
  intro e
  rw [l.key i hi, l.key j hj] at e
  have : i = j := by omega
  rw [this]
def msP (N : Nat) (M : Nat → Me) : List Me := (List.range N).map M
theorem ring_pl {n : Nat} {p : Nat → Int} {M : Nat → Me} (O : Ord n p) (l : Links n n p (fun k => (k + 1) % n) (fun _ => 1) M) : Pl n p (lgP (msP n M)) (fun j => [M j, M ((j + (n - 1)) % n)]) := by
  have h3 := O.ge
  have s1 : ∀ k, (k + 1) % n < n := fun k => Nat.mod_lt _ (by omega)
  refine ⟨fun j hj => ?_, fun i hi hno => ?_⟩
  · have ei : ((p j).toNat : Int) = p j := by have := O.lo j hj; omega
    unfold lgP msP
    rw [ei]
    have a1 : ((List.range n).map M).flatMap (hit (p j) 0) = hit (p j) 0 (M j) := flat1 n j hj fun k hk ne => hit_no fun z => by
      rcases (l.lk k hk).has.mp z with ⟨e, _⟩ | ⟨_, e⟩
      · exact ne (O.inj j k hj hk e).symm
      · exact absurd e (by decide)
    have jl : (j + (n - 1)) % n < n := Nat.mod_lt _ (by omega)
    have je : ((j + (n - 1)) % n + 1) % n = j := by
      rw [Nat.mod_add_mod, show j + (n - 1) + 1 = j + n by omega, Nat.add_mod_right, Nat.mod_eq_of_lt hj]
    have a2 : ((List.range n).map M).flatMap (hit (p j) 1) = hit (p j) 1 (M ((j + (n - 1)) % n)) := flat1 n _ jl fun k hk ne => hit_no fun z => by
      rcases (l.lk k hk).has.mp z with ⟨_, e⟩ | ⟨e, _⟩
      · exact absurd e (by decide)
      · have e1 := O.inj j _ hj (s1 k) e
        apply ne
        have e2 : (k + 1) % n = ((j + (n - 1)) % n + 1) % n := e1.symm.trans je.symm
        generalize (j + (n - 1)) % n = c at jl e2
        by_cases k1 : k + 1 < n
        · by_cases c1 : c + 1 < n
          · rw [Nat.mod_eq_of_lt k1, Nat.mod_eq_of_lt c1] at e2; omega
          · rw [Nat.mod_eq_of_lt k1, show c + 1 = n by omega, Nat.mod_self] at e2; omega
        · by_cases c1 : c + 1 < n
          · rw [Nat.mod_eq_of_lt c1, show k + 1 = n by omega, Nat.mod_self] at e2; omega
          · omega
    have tw : ∀ k, k < n → (M k).x.a ≠ (M k).y.a := fun k hk => (l.lk k hk).two fun e => by
      have := O.inj k _ hk (s1 k) e
      by_cases k1 : k + 1 < n
      · rw [Nat.mod_eq_of_lt k1] at this; omega
      · rw [show k + 1 = n by omega, Nat.mod_self] at this; omega
    rw [a1, a2, hit_yes ((l.lk j hj).has.mpr (.inl ⟨rfl, rfl⟩)) (tw j hj), hit_yes ((l.lk _ jl).has.mpr (.inr ⟨by rw [je], rfl⟩)) (tw _ jl)]
    rfl
  · unfold lgP msP
    rw [flat0 n fun k hk => hit_no fun z => ?_, flat0 n fun k hk => hit_no fun z => ?_]
    · rfl
    · rcases (l.lk k hk).has.mp z with ⟨e, _⟩ | ⟨e, _⟩
      · exact hno k hk e.symm
      · exact hno _ (s1 k) e.symm
    · rcases (l.lk k hk).has.mp z with ⟨e, _⟩ | ⟨e, _⟩
      · exact hno k hk e.symm
      · exact hno _ (s1 k) e.symm
theorem ring_two {n : Nat} {p : Nat → Int} {M : Nat → Me} (O : Ord n p) (l : Links n n p (fun k => (k + 1) % n) (fun _ => 1) M) : ∀ k, k < n → (M k).x.a ≠ (M k).y.a := fun k hk => (l.lk k hk).two fun e => by
  have h3 := O.ge
  have := O.inj k _ hk (Nat.mod_lt _ (by omega)) e
  by_cases k1 : k + 1 < n
  · rw [Nat.mod_eq_of_lt k1] at this; omega
  · rw [show k + 1 = n by omega, Nat.mod_self] at this; omega
theorem ring_ok {n : Nat} {p : Nat → Int} {M : Nat → Me} (O : Ord n p) (l : Links n n p (fun k => (k + 1) % n) (fun _ => 1) M) : Ok n (lgP (msP n M)) := by
  have h3 := O.ge
  have s1 : ∀ k, (k + 1) % n < n := fun k => Nat.mod_lt _ (by omega)
  have t1 : ∀ j, (j + (n - 1)) % n < n := fun k => Nat.mod_lt _ (by omega)
  have je : ∀ j, j < n → ((j + (n - 1)) % n + 1) % n = j := fun j hj => by
    rw [Nat.mod_add_mod, show j + (n - 1) + 1 = j + n by omega, Nat.add_mod_right, Nat.mod_eq_of_lt hj]
  have ej : ∀ j, j < n → ((j + 1) % n + (n - 1)) % n = j := fun j hj => by
    rw [Nat.mod_add_mod, show j + 1 + (n - 1) = j + n by omega, Nat.add_mod_right, Nat.mod_eq_of_lt hj]
  have mem : ∀ j, j < n → ∀ m ∈ [M j, M ((j + (n - 1)) % n)], ∃ k, k < n ∧ m = M k := fun j hj m hm => by
    rcases List.mem_cons.mp hm with e | e
    · exact ⟨j, hj, e⟩
    · exact ⟨_, t1 j, List.mem_singleton.mp e⟩
  refine Ok.of O (ring_pl O l) (fun j hj m hm => ?_) (fun j hj t m ht => ?_) (fun j hj m hm a t ha => ?_) (fun i j hi hj m hm m' hm' => ?_) (fun j hj => by simp)
  · obtain ⟨k, hk, rfl⟩ := mem j hj m hm
    exact ring_two O l k hk
  · match t, ht with
    | 0, ht =>
      have : M j = m := by simpa using ht
      subst this
      exact (l.lk j hj).has.mpr (.inl ⟨rfl, rfl⟩)
    | 1, ht =>
      have : M ((j + (n - 1)) % n) = m := by simpa using ht
      subst this
      exact (l.lk _ (t1 j)).has.mpr (.inr ⟨by rw [je j hj], rfl⟩)
    | t + 2, ht => simp at ht
  · obtain ⟨k, hk, rfl⟩ := mem j hj m hm
    rcases (l.lk k hk).has.mp ha with ⟨rfl, rfl⟩ | ⟨rfl, rfl⟩
    · exact ⟨k, hk, rfl, by decide, by simp, fun z hz => by simpa using hz.symm⟩
    · refine ⟨(k + 1) % n, s1 k, rfl, by decide, by simp, fun z hz => ?_⟩
      have hz' : M (((k + 1) % n + (n - 1)) % n) = z := by simpa using hz
      rw [ej k hk] at hz'
      exact hz'.symm
  · obtain ⟨k, hk, rfl⟩ := mem i hi m hm
    obtain ⟨k', hk', rfl⟩ := mem j hj m' hm'
    exact l.inj hk hk'
/-- F: all of the meetings -/
structure AllM (N : Nat) (M : Nat → Me) (F : List Me) : Prop where
  nd : F.Nodup
  mem : ∀ m, m ∈ F ↔ ∃ k, k < N ∧ m = M k
theorem ring_taken {n : Nat} {p : Nat → Int} {M : Nat → Me} {F : List Me} (O : Ord n p) (l : Links n n p (fun k => (k + 1) % n) (fun _ => 1) M) (A : AllM n M F) : (F.flatMap pts).Nodup := by
  have h3 := O.ge
  have s1 : ∀ k, (k + 1) % n < n := fun k => Nat.mod_lt _ (by omega)
  refine taken_nodup A.nd (fun m hm => ?_) (fun m hm m' hm' a t h1 h2 => ?_)
  · obtain ⟨k, hk, rfl⟩ := (A.mem m).mp hm
    exact ring_two O l k hk
  · obtain ⟨k, hk, rfl⟩ := (A.mem m).mp hm
    obtain ⟨k', hk', rfl⟩ := (A.mem m').mp hm'
    rcases (l.lk k hk).has.mp h1 with ⟨e1, e2⟩ | ⟨e1, e2⟩ <;> rcases (l.lk k' hk').has.mp h2 with ⟨e3, e4⟩ | ⟨e3, e4⟩
    · rw [O.inj k k' hk hk' (e1.symm.trans e3)]
    · rw [e2] at e4; exact absurd e4 (by decide)
    · rw [e2] at e4; exact absurd e4 (by decide)
    · have e5 := O.inj _ _ (s1 k) (s1 k') (e1.symm.trans e3)
      have : k = k' := by
        by_cases k1 : k + 1 < n
        · by_cases c1 : k' + 1 < n
          · rw [Nat.mod_eq_of_lt k1, Nat.mod_eq_of_lt c1] at e5; omega
          · rw [Nat.mod_eq_of_lt k1, show k' + 1 = n by omega, Nat.mod_self] at e5; omega
        · by_cases c1 : k' + 1 < n
          · rw [Nat.mod_eq_of_lt c1, show k + 1 = n by omega, Nat.mod_self] at e5; omega
          · omega
      rw [this]
theorem ring_drain {n : Nat} {p : Nat → Int} {M : Nat → Me} {F : List Me} (O : Ord n p) (l : Links n n p (fun k => (k + 1) % n) (fun _ => 1) M) (A : AllM n M F) : Drain F none := by
  have h3 := O.ge
  have s1 : ∀ k, (k + 1) % n < n := fun k => Nat.mod_lt _ (by omega)
  refine .stuck (fun z => ?_) (List.filter_eq_nil_iff.mpr fun m hm => ?_)
  · have : M 0 ∈ F := (A.mem _).mpr ⟨0, by omega, rfl⟩
    rw [z] at this; cases this
  · obtain ⟨k, hk, rfl⟩ := (A.mem m).mp hm
    unfold rdy
    simp only [Bool.not_eq_true, Bool.not_eq_false']
    refine List.any_eq_true.mpr ⟨M ((k + 1) % n), (A.mem _).mpr ⟨_, s1 k, rfl⟩, ?_⟩
    exact blk_iff.mpr ⟨p ((k + 1) % n), 1, 0, (l.lk k hk).has.mpr (.inr ⟨rfl, rfl⟩), (l.lk _ (s1 k)).has.mpr (.inl ⟨rfl, rfl⟩), by decide⟩
/-! ### the chain -/
def uC (n k : Nat) : Int := if k + 1 < n - 1 then 1 else 0
abbrev CL (n : Nat) (p : Nat → Int) (M : Nat → Me) := Links (n - 1) n p (fun k => k + 1) (uC n) M
def chL (n : Nat) (M : Nat → Me) (j : Nat) : List Me := if j = 0 then [M 0] else if j + 1 = n then [M (j - 1)] else [M j, M (j - 1)]
def chL0 (n : Nat) (M : Nat → Me) (j : Nat) : List Me := if j = 0 then [] else chL n M j
theorem chain_two {n : Nat} {p : Nat → Int} {M : Nat → Me} (O : Ord n p) (l : CL n p M) : ∀ k, k < n - 1 → (M k).x.a ≠ (M k).y.a := fun k hk => (l.lk k hk).two fun e => by
  have := O.inj k _ (by omega) (by omega) e
  omega
theorem uC0 {n k : Nat} (h : uC n k = 0) : n - 1 ≤ k + 1 := by
  unfold uC at h
  split at h
  · exact absurd h (by decide)
  · omega
theorem uC1 {n k : Nat} (h : uC n k = 1) : k + 1 < n - 1 := by
  unfold uC at h
  split at h
  · assumption
  · exact absurd h (by decide)
theorem uC01 (n k : Nat) : uC n k = 0 ∨ uC n k = 1 := by
  unfold uC
  split
  · exact .inr rfl
  · exact .inl rfl
theorem chain_pl {n : Nat} {p : Nat → Int} {M : Nat → Me} (O : Ord n p) (l : CL n p M) : Pl n p (lgP (msP (n - 1) M)) (chL n M) := by
  have h3 := O.ge
  refine ⟨fun j hj => ?_, fun i hi hno => ?_⟩
  · have ei : ((p j).toNat : Int) = p j := by have := O.lo j hj; omega
    unfold lgP msP
    rw [ei]
    have a1 : ∀ k, k < n - 1 → Has (M k) (p j) 0 → k = j ∨ (k + 1 = j ∧ j + 1 = n) := fun k hk z => by
      rcases (l.lk k hk).has.mp z with ⟨e, _⟩ | ⟨e, e2⟩
      · exact .inl (O.inj j k hj (by omega) e).symm
      · have := O.inj j _ hj (by omega) e
        have := uC0 e2.symm
        exact .inr ⟨by omega, by omega⟩
    have a2 : ∀ k, k < n - 1 → Has (M k) (p j) 1 → k + 1 = j ∧ j + 1 < n := fun k hk z => by
      rcases (l.lk k hk).has.mp z with ⟨_, e⟩ | ⟨e, e2⟩
      · exact absurd e (by decide)
      · have := O.inj j _ hj (by omega) e
        have := uC1 e2.symm
        exact ⟨by omega, by omega⟩
    unfold chL
    by_cases j0 : j = 0
    · subst j0
      rw [if_pos rfl, flat1 (n - 1) 0 (by omega) fun k hk ne => hit_no fun z => ?_, flat0 (n - 1) fun k hk => hit_no fun z => ?_, hit_yes ((l.lk 0 (by omega)).has.mpr (.inl ⟨rfl, rfl⟩)) (chain_two O l 0 (by omega))]
      · rfl
      · have := a2 k hk z; omega
      · rcases a1 k hk z with e | e <;> omega
    · rw [if_neg j0]
      by_cases jn : j + 1 = n
      · have u0 : uC n (j - 1) = 0 := by unfold uC; rw [if_neg (by omega)]
        rw [if_pos jn, flat1 (n - 1) (j - 1) (by omega) fun k hk ne => hit_no fun z => ?_, flat0 (n - 1) fun k hk => hit_no fun z => ?_, hit_yes ((l.lk (j - 1) (by omega)).has.mpr (.inr ⟨by rw [show j - 1 + 1 = j by omega], u0.symm⟩)) (chain_two O l (j - 1) (by omega))]
        · rfl
        · have := a2 k hk z; omega
        · rcases a1 k hk z with e | e <;> omega
      · have u0 : uC n (j - 1) = 1 := by unfold uC; rw [if_pos (by omega)]
        rw [if_neg jn, flat1 (n - 1) j (by omega) fun k hk ne => hit_no fun z => ?_, flat1 (n - 1) (j - 1) (by omega) fun k hk ne => hit_no fun z => ?_, hit_yes ((l.lk j (by omega)).has.mpr (.inl ⟨rfl, rfl⟩)) (chain_two O l j (by omega)), hit_yes ((l.lk (j - 1) (by omega)).has.mpr (.inr ⟨by rw [show j - 1 + 1 = j by omega], u0.symm⟩)) (chain_two O l (j - 1) (by omega))]
        · rfl
        · have := a2 k hk z; omega
        · rcases a1 k hk z with e | e <;> omega
  · unfold lgP msP
    rw [flat0 (n - 1) fun k hk => hit_no fun z => ?_, flat0 (n - 1) fun k hk => hit_no fun z => ?_]
    · rfl
    · rcases (l.lk k hk).has.mp z with ⟨e, _⟩ | ⟨e, _⟩
      · exact hno k (by omega) e.symm
      · exact hno _ (by omega) e.symm
    · rcases (l.lk k hk).has.mp z with ⟨e, _⟩ | ⟨e, _⟩
      · exact hno k (by omega) e.symm
      · exact hno _ (by omega) e.symm
theorem chL_mem {n : Nat} {M : Nat → Me} {j : Nat} (h3 : 3 ≤ n) (hj : j < n) : ∀ m ∈ chL n M j, ∃ k, k < n - 1 ∧ m = M k := by
  intro m hm
  unfold chL at hm
  split at hm
  · exact ⟨0, by omega, List.mem_singleton.mp hm⟩
  · split at hm
    · exact ⟨j - 1, by omega, List.mem_singleton.mp hm⟩
    · rcases List.mem_cons.mp hm with e | e
      · exact ⟨j, by omega, e⟩
      · exact ⟨j - 1, by omega, List.mem_singleton.mp e⟩
theorem chL_own {n : Nat} {p : Nat → Int} {M : Nat → Me} (O : Ord n p) (l : CL n p M) {j : Nat} (hj : j < n) {t : Nat} {m : Me} (ht : (chL n M j)[t]? = some m) : Has m (p j) t := by
  have h3 := O.ge
  unfold chL at ht
  split at ht
  · next j0 =>
    match t, ht with
    | 0, ht =>
      have : M 0 = m := by simpa using ht
      subst this
      subst j0
      exact (l.lk 0 (by omega)).has.mpr (.inl ⟨rfl, rfl⟩)
    | t + 1, ht => simp at ht
  · next j0 =>
    split at ht
    · next jn =>
      match t, ht with
      | 0, ht =>
        have : M (j - 1) = m := by simpa using ht
        subst this
        have u0 : uC n (j - 1) = 0 := by unfold uC; rw [if_neg (by omega)]
        exact (l.lk (j - 1) (by omega)).has.mpr (.inr ⟨by rw [show j - 1 + 1 = j by omega], u0.symm⟩)
      | t + 1, ht => simp at ht
    · next jn =>
      match t, ht with
      | 0, ht =>
        have : M j = m := by simpa using ht
        subst this
        exact (l.lk j (by omega)).has.mpr (.inl ⟨rfl, rfl⟩)
      | 1, ht =>
        have : M (j - 1) = m := by simpa using ht
        subst this
        have u0 : uC n (j - 1) = 1 := by unfold uC; rw [if_pos (by omega)]
        exact (l.lk (j - 1) (by omega)).has.mpr (.inr ⟨by rw [show j - 1 + 1 = j by omega], u0.symm⟩)
      | t + 2, ht => simp at ht
/-- where the parts of M k stand -/
theorem chL_fit {n : Nat} {p : Nat → Int} {M : Nat → Me} (O : Ord n p) (l : CL n p M) {k : Nat} (hk : k < n - 1) {a t : Int} (ha : Has (M k) a t) : ∃ i, i < n ∧ a = p i ∧ 0 ≤ t ∧ t < (chL n M i).length ∧ ∀ z, (chL n M i)[t.toNat]? = some z → z = M k := by
  have h3 := O.ge
  rcases (l.lk k hk).has.mp ha with ⟨rfl, rfl⟩ | ⟨rfl, rfl⟩
  · refine ⟨k, by omega, rfl, by decide, ?_, fun z hz => ?_⟩
    · unfold chL; split
      · simp
      · split <;> simp
    · unfold chL at hz
      by_cases k0 : k = 0
      · rw [if_pos k0] at hz; subst k0; simpa using hz.symm
      · rw [if_neg k0, if_neg (by omega)] at hz; simpa using hz.symm
  · refine ⟨k + 1, by omega, rfl, ?_, ?_, fun z hz => ?_⟩
    · rcases uC01 n k with e | e <;> rw [e] <;> decide
    · have hc : chL n M (k + 1) = if k + 1 + 1 = n then [M k] else [M (k + 1), M k] := by
        unfold chL
        rw [if_neg (by omega)]
        rfl
      rw [hc]
      by_cases e : k + 1 + 1 = n
      · rw [if_pos e, show uC n k = 0 by unfold uC; rw [if_neg (by omega)]]; simp
      · rw [if_neg e, show uC n k = 1 by unfold uC; rw [if_pos (by omega)]]; simp
    · unfold chL uC at hz
      rw [if_neg (by omega)] at hz
      by_cases e : k + 1 + 1 = n
      · rw [if_pos e, if_neg (by omega)] at hz; simpa using hz.symm
      · rw [if_neg e, if_pos (by omega)] at hz; simpa using hz.symm
theorem chL_sz {n : Nat} {M : Nat → Me} (j : Nat) : (chL n M j).length ≤ 2 := by
  unfold chL
  split
  · simp
  · split <;> simp
theorem chain_ok {n : Nat} {p : Nat → Int} {M : Nat → Me} (O : Ord n p) (l : CL n p M) : Ok n (lgP (msP (n - 1) M)) := by
  have h3 := O.ge
  refine Ok.of O (chain_pl O l) (fun j hj m hm => ?_) (fun j hj t m ht => chL_own O l hj ht) (fun j hj m hm a t ha => ?_) (fun i j hi hj m hm m' hm' => ?_) (fun j hj => chL_sz j)
  · obtain ⟨k, hk, rfl⟩ := chL_mem h3 hj m hm
    exact chain_two O l k hk
  · obtain ⟨k, hk, rfl⟩ := chL_mem h3 hj m hm
    obtain ⟨i, h1, h2, h4, h5, h6⟩ := chL_fit O l hk ha
    exact ⟨i, h1, h2, h4, by omega, h6⟩
  · obtain ⟨k, hk, rfl⟩ := chL_mem h3 hi m hm
    obtain ⟨k', hk', rfl⟩ := chL_mem h3 hj m' hm'
    exact l.inj hk hk'
theorem chain0_ok {n : Nat} {p : Nat → Int} {M : Nat → Me} (O : Ord n p) (l : CL n p M) : Ok n (fun j => if j = (p 0).toNat then [] else lgP (msP (n - 1) M) j) := by
  have h3 := O.ge
  have P := chain_pl O l
  have pl : Pl n p (fun j => if j = (p 0).toNat then [] else lgP (msP (n - 1) M) j) (chL0 n M) := by
    refine ⟨fun j hj => ?_, fun i hi hno => ?_⟩
    · show (if (p j).toNat = (p 0).toNat then [] else lgP (msP (n - 1) M) (p j).toNat) = _
      unfold chL0
      by_cases e : j = 0
      · subst e; rw [if_pos rfl, if_pos rfl]
      · rw [if_neg e, if_neg fun z => e (O.inj j 0 hj (by omega) (by have := O.lo j hj; have := O.lo 0 (by omega); omega))]
        exact P.at' j hj
    · show (if i = (p 0).toNat then [] else lgP (msP (n - 1) M) i) = _
      split
      · rfl
      · exact P.no i hi hno
  have mem : ∀ j, j < n → ∀ m ∈ chL0 n M j, ∃ k, k < n - 1 ∧ m = M k := fun j hj m hm => by
    unfold chL0 at hm
    split at hm
    · cases hm
    · exact chL_mem h3 hj m hm
  refine Ok.of O pl (fun j hj m hm => ?_) (fun j hj t m ht => ?_) (fun j hj m hm a t ha => ?_) (fun i j hi hj m hm m' hm' => ?_) (fun j hj => ?_)
  · obtain ⟨k, hk, rfl⟩ := mem j hj m hm
    exact chain_two O l k hk
  · unfold chL0 at ht
    split at ht
    · simp at ht
    · exact chL_own O l hj ht
  · obtain ⟨k, hk, rfl⟩ := mem j hj m hm
    obtain ⟨i, h1, h2, h4, h5, h6⟩ := chL_fit O l hk ha
    refine ⟨i, h1, h2, h4, ?_, fun z hz => ?_⟩
    · unfold chL0
      by_cases e : i = 0
      · subst e
        rw [if_pos rfl]
        have : (chL n M 0).length = 1 := by unfold chL; rw [if_pos rfl]; rfl
        rw [this] at h5
        simp
        omega
      · rw [if_neg e]
        omega
    · unfold chL0 at hz
      split at hz
      · simp at hz
      · exact h6 z hz
  · obtain ⟨k, hk, rfl⟩ := mem i hi m hm
    obtain ⟨k', hk', rfl⟩ := mem j hj m' hm'
    exact l.inj hk hk'
  · unfold chL0
    split
    · simp
    · exact chL_sz j
theorem chain_taken {n : Nat} {p : Nat → Int} {M : Nat → Me} {F : List Me} (O : Ord n p) (l : CL n p M) (A : AllM (n - 1) M F) : (F.flatMap pts).Nodup := by
  have h3 := O.ge
  refine taken_nodup A.nd (fun m hm => ?_) (fun m hm m' hm' a t h1 h2 => ?_)
  · obtain ⟨k, hk, rfl⟩ := (A.mem m).mp hm
    exact chain_two O l k hk
  · obtain ⟨k, hk, rfl⟩ := (A.mem m).mp hm
    obtain ⟨k', hk', rfl⟩ := (A.mem m').mp hm'
    rcases (l.lk k hk).has.mp h1 with ⟨e1, e2⟩ | ⟨e1, e2⟩ <;> rcases (l.lk k' hk').has.mp h2 with ⟨e3, e4⟩ | ⟨e3, e4⟩
    · rw [O.inj k k' (by omega) (by omega) (e1.symm.trans e3)]
    · have := O.inj k (k' + 1) (by omega) (by omega) (e1.symm.trans e3)
      have := uC0 (e4.symm.trans e2)
      omega
    · have := O.inj (k + 1) k' (by omega) (by omega) (e1.symm.trans e3)
      have := uC0 (e2.symm.trans e4)
      omega
    · have : k = k' := by
        have := O.inj (k + 1) (k' + 1) (by omega) (by omega) (e1.symm.trans e3)
        omega
      rw [this]
theorem chain_drain {n : Nat} {p : Nat → Int} {M : Nat → Me} (O : Ord n p) (l : CL n p M) : ∀ (K : Nat) (F : List Me), K ≤ n - 1 → AllM K M F → Drain F (some (msP K M).reverse)
  | 0, F, _, A => by
    have : F = [] := List.eq_nil_iff_forall_not_mem.mpr fun m hm => by
      obtain ⟨k, hk, _⟩ := (A.mem m).mp hm
      omega
    rw [this]
    exact .nil
  | K + 1, F, hK, A => by
    have h3 := O.ge
    have e1 : F.filter (rdy F) = [M K] := by
      refine filter_one A.nd ((A.mem _).mpr ⟨K, by omega, rfl⟩) ?_ fun z hz hr => ?_
      · unfold rdy
        rw [Bool.not_eq_true', List.any_eq_false]
        intro o ho hb
        obtain ⟨k, hk, rfl⟩ := (A.mem o).mp ho
        obtain ⟨a, t, t', h1, h2, h4⟩ := blk_iff.mp hb
        have tp : 0 ≤ t' := by
          rcases (l.lk k (by omega)).has.mp h2 with ⟨_, e⟩ | ⟨_, e⟩
          · omega
          · rcases uC01 n k with q | q <;> omega
        rcases (l.lk K (by omega)).has.mp h1 with ⟨e1, e2⟩ | ⟨e1, e2⟩
        · omega
        · have hu : uC n K = 1 := by rcases uC01 n K with q | q <;> omega
          have := uC1 hu
          have t0 : t' = 0 := by omega
          rcases (l.lk k (by omega)).has.mp h2 with ⟨e3, e4⟩ | ⟨e3, e4⟩
          · have := O.inj (K + 1) k (by omega) (by omega) (e1.symm.trans e3)
            omega
          · have := O.inj (K + 1) (k + 1) (by omega) (by omega) (e1.symm.trans e3)
            have := uC0 (e4.symm.trans t0)
            omega
      · obtain ⟨k, hk, rfl⟩ := (A.mem z).mp hz
        by_cases e : k = K
        · rw [e]
        · exfalso
          unfold rdy at hr
          rw [Bool.not_eq_true', List.any_eq_false] at hr
          have hu : uC n k = 1 := by unfold uC; rw [if_pos (by omega)]
          exact hr (M (k + 1)) ((A.mem _).mpr ⟨k + 1, by omega, rfl⟩) (blk_iff.mpr ⟨p (k + 1), 1, 0, (l.lk k (by omega)).has.mpr (.inr ⟨rfl, hu.symm⟩), (l.lk (k + 1) (by omega)).has.mpr (.inl ⟨rfl, rfl⟩), by decide⟩)
    have A' : AllM K M (F.filter fun z => !decide (z.k = (M K).k)) := by
      refine ⟨A.nd.filter _, fun m => ?_⟩
      rw [List.mem_filter]
      constructor
      · rintro ⟨h1, h2⟩
        obtain ⟨k, hk, rfl⟩ := (A.mem m).mp h1
        refine ⟨k, ?_, rfl⟩
        have : k ≠ K := fun e => by
          subst e
          simp at h2
        omega
      · rintro ⟨k, hk, rfl⟩
        refine ⟨(A.mem _).mpr ⟨k, by omega, rfl⟩, ?_⟩
        rw [l.key k (by omega), l.key K (by omega)]
        have : (k : Int) ≠ (K : Int) := by omega
        simp
        omega
    have d := Drain.step e1 (chain_drain O l K _ (by omega) A')
    have e2 : (msP (K + 1) M).reverse = M K :: (msP K M).reverse := by
      unfold msP
      rw [List.range_succ, List.map_append, List.reverse_append]
      rfl
    rw [e2]
    exact d
/-! ### one meeting, two meetings -/
theorem one_ok {n : Nat} {p : Nat → Int} {m : Me} (O : Ord n p) (l : Lk m (p 0) 0 (p 1) 0) : Ok n (fun j => if j = (p 0).toNat then [m] else []) := by
  have h3 := O.ge
  have p0 := O.lo 0 (by omega)
  have p1 := O.lo 1 (by omega)
  have ne : p 0 ≠ p 1 := fun e => absurd (O.inj 0 1 (by omega) (by omega) e) (by decide)
  have mem : ∀ j, ∀ z ∈ (if j = (p 0).toNat then [m] else []), z = m ∧ j = (p 0).toNat := fun j z hz => by
    split at hz
    · exact ⟨List.mem_singleton.mp hz, by assumption⟩
    · cases hz
  refine ⟨fun i hi z hz => ?_, fun i hi t z hz => ?_, fun i hi z hz a t ha => ?_, fun i j hi hj z hz z' hz' => ?_, fun i hi => ?_⟩
  · rw [(mem i z hz).1]
    exact l.two ne
  · obtain ⟨e1, e2⟩ := mem i z (List.mem_of_getElem? hz)
    subst e1
    subst e2
    rw [if_pos rfl] at hz
    match t, hz with
    | 0, _ => exact l.has.mpr (.inl ⟨by omega, rfl⟩)
    | t + 1, hz => simp at hz
  · rw [(mem i z hz).1] at ha ⊢
    rcases l.has.mp ha with ⟨rfl, rfl⟩ | ⟨rfl, rfl⟩
    · refine ⟨p0, O.hi 0 (by omega), by decide, by simp, fun w hw => ?_⟩
      exact (mem _ w (List.mem_of_getElem? hw)).1
    · refine ⟨p1, O.hi 1 (by omega), by decide, by simp, fun w hw => ?_⟩
      exact (mem _ w (List.mem_of_getElem? hw)).1
  · rw [(mem i z hz).1, (mem j z' hz').1]
    intro _
    rfl
  · split <;> simp
theorem one_drain {m : Me} {a b : Int} (l : Lk m a 0 b 0) : Drain [m] (some [m]) := by
  have e1 : [m].filter (rdy [m]) = [m] := by
    have : rdy [m] m = true := by
      unfold rdy
      rw [Bool.not_eq_true', List.any_eq_false]
      intro o ho hb
      rw [List.mem_singleton.mp ho] at hb
      obtain ⟨c, t, t', h1, h2, h3⟩ := blk_iff.mp hb
      have q1 : t = 0 := by rcases l.has.mp h1 with ⟨_, e⟩ | ⟨_, e⟩ <;> exact e
      have q2 : t' = 0 := by rcases l.has.mp h2 with ⟨_, e⟩ | ⟨_, e⟩ <;> exact e
      omega
    simp [this]
  have d := Drain.step e1 (r := some []) (by simp; exact .nil)
  exact d
theorem two_ok {n : Nat} {p : Nat → Int} {m o : Me} (O : Ord n p) (l : Lk m (p 0) 0 (p 1) 0) (l' : Lk o (p 2) 0 (p 1) 0) (hk : m.k ≠ o.k) : Ok n (fun j => if j = (p 2).toNat then [o] else if j = (p 0).toNat then [m] else []) := by
  have h3 := O.ge
  have p0 := O.lo 0 (by omega)
  have p1 := O.lo 1 (by omega)
  have p2 := O.lo 2 (by omega)
  have ne : p 0 ≠ p 1 := fun e => absurd (O.inj 0 1 (by omega) (by omega) e) (by decide)
  have ne2 : p 2 ≠ p 1 := fun e => absurd (O.inj 2 1 (by omega) (by omega) e) (by decide)
  have ne3 : p 0 ≠ p 2 := fun e => absurd (O.inj 0 2 (by omega) (by omega) e) (by decide)
  have mem : ∀ j, ∀ z ∈ (if j = (p 2).toNat then [o] else if j = (p 0).toNat then [m] else []), (z = m ∧ j = (p 0).toNat) ∨ (z = o ∧ j = (p 2).toNat) := fun j z hz => by
    split at hz
    · exact .inr ⟨List.mem_singleton.mp hz, by assumption⟩
    · split at hz
      · exact .inl ⟨List.mem_singleton.mp hz, by assumption⟩
      · cases hz
  refine ⟨fun i hi z hz => ?_, fun i hi t z hz => ?_, fun i hi z hz a t ha => ?_, fun i j hi hj z hz z' hz' => ?_, fun i hi => ?_⟩
  · rcases mem i z hz with ⟨e, _⟩ | ⟨e, _⟩ <;> rw [e]
    · exact l.two ne
    · exact l'.two ne2
  · rcases mem i z (List.mem_of_getElem? hz) with ⟨e1, e2⟩ | ⟨e1, e2⟩
    · subst e1
      subst e2
      rw [if_neg (by omega), if_pos rfl] at hz
      match t, hz with
      | 0, _ => exact l.has.mpr (.inl ⟨by omega, rfl⟩)
      | t + 1, hz => simp at hz
    · subst e1
      subst e2
      rw [if_pos rfl] at hz
      match t, hz with
      | 0, _ => exact l'.has.mpr (.inl ⟨by omega, rfl⟩)
      | t + 1, hz => simp at hz
  · have at2 : ∀ {w : Me} {t : Int}, t = 0 → (if (p 0).toNat = (p 2).toNat then [o] else if (p 0).toNat = (p 0).toNat then [m] else [])[t.toNat]? = some w → w = m := fun {w t} et hw => by
      subst et
      rw [if_neg (by omega), if_pos rfl] at hw
      simpa using hw.symm
    have at3 : ∀ {w : Me} {t : Int}, t = 0 → (if (p 2).toNat = (p 2).toNat then [o] else if (p 2).toNat = (p 0).toNat then [m] else [])[t.toNat]? = some w → w = o := fun {w t} et hw => by
      subst et
      rw [if_pos rfl] at hw
      simpa using hw.symm
    have at1 : ∀ {w : Me} {t : Nat}, (if (p 1).toNat = (p 2).toNat then [o] else if (p 1).toNat = (p 0).toNat then [m] else [])[t]? = some w → False := fun {w t} hw => by
      rw [if_neg (by omega), if_neg (by omega)] at hw
      simp at hw
    rcases mem i z hz with ⟨e, _⟩ | ⟨e, _⟩ <;> rw [e] at ha ⊢
    · rcases l.has.mp ha with ⟨rfl, rfl⟩ | ⟨rfl, rfl⟩
      · exact ⟨p0, O.hi 0 (by omega), by decide, by simp, fun w hw => at2 rfl hw⟩
      · exact ⟨p1, O.hi 1 (by omega), by decide, by simp, fun w hw => (at1 hw).elim⟩
    · rcases l'.has.mp ha with ⟨rfl, rfl⟩ | ⟨rfl, rfl⟩
      · exact ⟨p2, O.hi 2 (by omega), by decide, by simp, fun w hw => at3 rfl hw⟩
      · exact ⟨p1, O.hi 1 (by omega), by decide, by simp, fun w hw => (at1 hw).elim⟩
  · rcases mem i z hz with ⟨e, _⟩ | ⟨e, _⟩ <;> rcases mem j z' hz' with ⟨e', _⟩ | ⟨e', _⟩ <;> rw [e, e'] <;> intro q
    · rfl
    · exact absurd q hk
    · exact absurd q.symm hk
    · rfl
  · split
    · simp
    · split <;> simp
/-! ### what is found -/
structure Fnd (n : Nat) (lg : Nat → List Me) (F : List Me) : Prop where
  nd : F.Nodup
  mem : ∀ m, m ∈ F ↔ ∃ i, i < n ∧ m ∈ lg i
theorem Pl.mem {n : Nat} {p : Nat → Int} {lg L : Nat → List Me} (P : Pl n p lg L) (O : Ord n p) (m : Me) : (∃ i, i < n ∧ m ∈ lg i) ↔ ∃ j, j < n ∧ m ∈ L j := by
  constructor
  · rintro ⟨i, hi, hm⟩
    rcases P.cases O hi with e | ⟨j, hj, _, e⟩
    · rw [e] at hm; cases hm
    · exact ⟨j, hj, by rw [← e]; exact hm⟩
  · rintro ⟨j, hj, hm⟩
    have := O.lo j hj
    have := O.hi j hj
    exact ⟨(p j).toNat, by omega, by rw [P.at' j hj]; exact hm⟩
theorem ring_fnd {n : Nat} {p : Nat → Int} {M : Nat → Me} {F : List Me} (O : Ord n p) (l : Links n n p (fun k => (k + 1) % n) (fun _ => 1) M) (f : Fnd n (lgP (msP n M)) F) : AllM n M F := by
  have h3 := O.ge
  refine ⟨f.nd, fun m => (f.mem m).trans (((ring_pl O l).mem O m).trans ⟨?_, ?_⟩)⟩
  · rintro ⟨j, hj, hm⟩
    rcases List.mem_cons.mp hm with e | e
    · exact ⟨j, hj, e⟩
    · exact ⟨_, Nat.mod_lt _ (by omega), List.mem_singleton.mp e⟩
  · rintro ⟨k, hk, rfl⟩
    exact ⟨k, hk, List.mem_cons_self ..⟩
theorem chain_fnd {n : Nat} {p : Nat → Int} {M : Nat → Me} {F : List Me} (O : Ord n p) (l : CL n p M) (f : Fnd n (lgP (msP (n - 1) M)) F) : AllM (n - 1) M F := by
  have h3 := O.ge
  refine ⟨f.nd, fun m => (f.mem m).trans (((chain_pl O l).mem O m).trans ⟨?_, ?_⟩)⟩
  · rintro ⟨j, hj, hm⟩
    exact chL_mem h3 hj m hm
  · rintro ⟨k, hk, rfl⟩
    refine ⟨k + 1, by omega, ?_⟩
    unfold chL
    rw [if_neg (by omega)]
    split <;> simp
theorem chain0_fnd {n : Nat} {p : Nat → Int} {M : Nat → Me} {F : List Me} (O : Ord n p) (l : CL n p M) (f : Fnd n (fun j => if j = (p 0).toNat then [] else lgP (msP (n - 1) M) j) F) : AllM (n - 1) M F := by
  have h3 := O.ge
  have P := chain_pl O l
  refine ⟨f.nd, fun m => (f.mem m).trans ⟨?_, ?_⟩⟩
  · rintro ⟨i, hi, hm⟩
    split at hm
    · cases hm
    · obtain ⟨j, hj, hm⟩ := (P.mem O m).mp ⟨i, hi, hm⟩
      exact chL_mem h3 hj m hm
  · rintro ⟨k, hk, rfl⟩
    have := O.lo (k + 1) (by omega)
    have := O.hi (k + 1) (by omega)
    have := O.lo 0 (by omega)
    refine ⟨(p (k + 1)).toNat, by omega, ?_⟩
    rw [if_neg fun z => absurd (O.inj (k + 1) 0 (by omega) (by omega) (by omega)) (by omega), P.at' (k + 1) (by omega)]
    unfold chL
    rw [if_neg (by omega)]
    split <;> simp
theorem one_fnd {n : Nat} {a : Nat} {m : Me} {F : List Me} (ha : a < n) (f : Fnd n (fun j => if j = a then [m] else []) F) : F = [m] := by
  have hm : ∀ z, z ∈ F ↔ z = m := fun z => by
    refine (f.mem z).trans ⟨?_, fun e => ⟨a, ha, by rw [if_pos rfl, e]; simp⟩⟩
    rintro ⟨i, _, h⟩
    split at h
    · exact List.mem_singleton.mp h
    · cases h
  have nd := f.nd
  match F, nd, hm with
  | [], _, hm => exact absurd ((hm m).mpr rfl) (by simp)
  | [z], _, hm => rw [(hm z).mp (by simp)]
  | z :: w :: r, nd, hm =>
    have e1 := (hm z).mp (by simp)
    have e2 := (hm w).mp (by simp)
    subst e1
    subst e2
    simp at nd
theorem two_fnd {n : Nat} {p : Nat → Int} {m o : Me} {F : List Me} (O : Ord n p) (l : Lk m (p 0) 0 (p 1) 0) (l' : Lk o (p 2) 0 (p 1) 0) (hk : m.k ≠ o.k) (f : Fnd n (fun j => if j = (p 2).toNat then [o] else if j = (p 0).toNat then [m] else []) F) : ¬ (F.flatMap pts).Nodup := by
  have h3 := O.ge
  have p0 := O.lo 0 (by omega)
  have p2 := O.lo 2 (by omega)
  have q0 := O.hi 0 (by omega)
  have q2 := O.hi 2 (by omega)
  have ne3 : p 0 ≠ p 2 := fun e => absurd (O.inj 0 2 (by omega) (by omega) e) (by decide)
  refine taken_dup (m := m) (m' := o) (a := p 1) (t := 0) ((f.mem _).mpr ⟨(p 0).toNat, by omega, ?_⟩) ((f.mem _).mpr ⟨(p 2).toNat, by omega, ?_⟩) (fun e => hk (by rw [e])) (l.has.mpr (.inr ⟨rfl, rfl⟩)) (l'.has.mpr (.inr ⟨rfl, rfl⟩))
  · rw [if_neg (by omega), if_pos rfl]; simp
  · rw [if_pos rfl]; simp
end K71
namespace K71
open PySem PySem.Spec L2 Mp
theorem ssn {T : Tab} {C : Orc} {σ : Ev} {h : MH} : evSs T C [] σ h = some (.nx σ h) := by unfold evSs; rfl
theorem LF1 : LF = 3999 + 1 := rfl
theorem fn13 : T.fns[13]? = some f13 := rfl
def c13 : ME := .not (.bf 9 [(.lcomp [4] (.andE (.cmp 0 (.sub (.loc 4) (.cst (.int 0))) (.loc 1)) (.cmp 0 (.sub (.loc 4) (.cst (.int 1))) (.loc 2))) (.nm 4) (.ex (.sub (.loc 3) (.cst (.int 1)))) [])])
theorem any13 (C : Orc) (L : Nat) (i t : Int) (m : Me) (o : Option PV) (h : MH) (ha : Has m i t) : ∃ h', evE T C true c13 [some (.ref L), some (.int i), some (.int t), some m.pv, o] h = some (.bl false, h') ∧ Grow [] h h' := by
  refine ⟨((h.new (.lst [])).put h.nx (.lst [.bl (m.x.a == i && m.x.t == t)])).put h.nx (.lst [.bl (m.x.a == i && m.x.t == t), .bl (m.y.a == i && m.y.t == t)]), ?_, ((Grow.refl [] h).new.put (Nat.le_refl _)).put (Nat.le_refl _)⟩
  have e : ((m.x.a == i && m.x.t == t) || (m.y.a == i && m.y.t == t)) = true := by
    rcases ha with ⟨h1, h2⟩ | ⟨h1, h2⟩ <;> simp [h1, h2]
  cases hx : (m.x.a == i) <;> cases hy : (m.y.a == i) <;> cases hxt : (m.x.t == t) <;> cases hyt : (m.y.t == t) <;> (rw [hx, hy, hxt, hyt] at e) <;> first | (exact absurd e (by decide)) | simp [c13, evE, evEs, evI, evG, evTs, finV, Me.pv, Pa.pv, subV, atV, atI, ixN, LF3, cpL, wipeM, IT.at, endL, IT.len, MH.new_same, MH.put_same, big, cmpR, cmp0_int, hx, hy, hxt, hyt, bfn, seqM, blsM, truthV, bfn.id']
theorem s13 (n : Nat) (L N : Nat) (lg : Nat → List Me) (rs : List Nat) (i : Nat) (h : MH) (g : Lg h L N lg rs) (ok : Ok N lg) (hi : i < N) :
    ∃ h', callF T (n + 1) 13 [.ref L, .int i] h = some (.ok .non h') ∧ Grow [] h h' := by
  obtain ⟨r, hr, rlt, hg⟩ := g.get hi
  have sz := ok.sz i hi
  have st : ∃ σ' h', evS T (callF T n) (.for (.tp [(.nm 2), (.nm 3)]) (.enu (.sub (.loc 0) (.loc 1))) [.ifs c13 [.raise 1 []] []]) [some (.ref L), some (.int i), none, none, none] h = some (.nx σ' h') ∧ Grow [] h h' := by
    obtain ⟨σ', h', q1, q2⟩ := foL_run (g := evG T (callF T n) (.tp [(.nm 2), (.nm 3)])) (b := evSs T (callF T n) [.ifs c13 [.raise 1 []] []]) (r := .enu r) (n := (lg i).length)
      (fun j σ hh => (∃ o2 o3 o4, σ = [some (.ref L), some (.int i), o2, o3, o4]) ∧ Grow [] h hh)
      (fun j σ hh hj hp => by
        obtain ⟨⟨o2, o3, o4, rfl⟩, gw⟩ := hp
        obtain ⟨h2, q1, q2⟩ := any13 (callF T n) L i j (lg i)[j] o4 hh (ok.own i hi j _ (List.getElem?_eq_getElem hj))
        refine ⟨.tup [.int j, (lg i)[j].pv], [some (.ref L), some (.int i), some (.int j), some (lg i)[j].pv, o4], hh, [some (.ref L), some (.int i), some (.int j), some (lg i)[j].pv, o4], h2, ?_, ?_, ?_, ⟨_, _, _, rfl⟩, gw.trans q2⟩
        · have e2 : hh.get r = some (.lst ((lg i).map Me.pv)) := (gw.2 r rlt (by simp)).trans hg
          simp [IT.at, e2, hj]
        · simp [evG, evGs]
        · simp [evSs, evS, q1])
      (fun σ hh hp => by
        have e2 : hh.get r = some (.lst ((lg i).map Me.pv)) := (hp.2.2 r rlt (by simp)).trans hg
        simp [IT.at, endL, IT.len, e2])
      (lg i).length 0 LF [some (.ref L), some (.int i), none, none, none] h (by omega) (by unfold LF; omega) ⟨⟨_, _, _, rfl⟩, Grow.refl [] h⟩
    refine ⟨σ', h', forc (r := .enu r) (h1 := h) ?_ q1, q2.2⟩
    have e1 : atI (rs.map PV.ref) (i : Int) = some (.ref r) := by
      unfold atI ixN
      rw [if_pos (by omega), if_pos (by rw [List.length_map, g.len]; omega)]
      simp [hr]
    simp [evI, evE, finV, subV, g.top, atV, e1, hg]
  obtain ⟨σ', h', q1, q2⟩ := st
  exact ⟨h', callw [some (.ref L), some (.int i), none, none, none] fn13 rfl rfl (ssc q1 ssn) rfl, q2⟩
end K71
namespace K71
open PySem PySem.Spec L2 Mp
theorem fn14 : T.fns[14]? = some f14 := rfl
theorem atR {rs : List Nat} {N : Nat} (hl : rs.length = N) {a : Int} {r : Nat} (h0 : 0 ≤ a) (h1 : a < N) (hr : rs[a.toNat]? = some r) : atI (rs.map PV.ref) a = some (.ref r) := by
  unfold atI ixN
  rw [if_pos h0, if_pos (by rw [List.length_map, hl]; omega)]
  simp [hr]
def bd14 : List MS := [
      .ifs (.orE (.cmp 2 (.loc 2) (.cst (.int 0))) (.orE (.cmp 5 (.loc 2) (.bf 0 [(.loc 0)])) (.orE (.cmp 2 (.loc 3) (.cst (.int 0))) (.cmp 4 (.loc 3) (.bf 0 [(.sub (.loc 0) (.loc 2))]))))) [
        .raise 1 []] [], 
      .ifs (.andE (.cmp 2 (.loc 3) (.bf 0 [(.sub (.loc 0) (.loc 2))])) (.cmp 1 (.sub (.sub (.loc 0) (.loc 2)) (.loc 3)) (.loc 1))) [
        .raise 1 []] []]
theorem body14 (C : Orc) {L N : Nat} {lg : Nat → List Me} {rs : List Nat} {i : Nat} {h : MH} (g : Lg h L N lg rs) (ok : Ok N lg) (hi : i < N) {m : Me} (hm : m ∈ lg i) {a t p q : Int} (ha : Has m a t) :
    evSs T C bd14 [some (.ref L), some m.pv, some (.int a), some (.int t), some (.int p), some (.int q)] h = some (.nx [some (.ref L), some m.pv, some (.int a), some (.int t), some (.int p), some (.int q)] h) := by
  obtain ⟨a0, a1, t0, t1, u⟩ := ok.fit i hi m hm a t ha
  obtain ⟨r, hr, rlt, hg⟩ := g.get (i := a.toNat) (by omega)
  have e1 := atR g.len a0 a1 hr
  have c1 : ¬ a < 0 := by omega
  have c2 : ¬ (N : Int) ≤ a := by omega
  have c3 : ¬ t < 0 := by omega
  have c4 : ¬ ((lg a.toNat).length : Int) < t := by omega
  have s1 : evS T C (.ifs (.orE (.cmp 2 (.loc 2) (.cst (.int 0))) (.orE (.cmp 5 (.loc 2) (.bf 0 [(.loc 0)])) (.orE (.cmp 2 (.loc 3) (.cst (.int 0))) (.cmp 4 (.loc 3) (.bf 0 [(.sub (.loc 0) (.loc 2))]))))) [
        .raise 1 []] []) [some (.ref L), some m.pv, some (.int a), some (.int t), some (.int p), some (.int q)] h = some (.nx [some (.ref L), some m.pv, some (.int a), some (.int t), some (.int p), some (.int q)] h) := by
    simp [evS, evSs, evE, evEs, finV, bfn, cmpR, cmpV, intCmp, subV, atV, g.top, e1, hg, g.len, c1, c2, c3, c4]
  refine ssc s1 (ssc (σ1 := [some (.ref L), some m.pv, some (.int a), some (.int t), some (.int p), some (.int q)]) (h1 := h) ?_ ssn)
  by_cases c5 : t < ((lg a.toNat).length : Int)
  · have hl : t.toNat < (lg a.toNat).length := by omega
    have e2 : atI ((lg a.toNat).map Me.pv) t = some m.pv := by
      unfold atI ixN
      rw [if_pos t0, if_pos (by rw [List.length_map]; exact c5)]
      have := u _ (List.getElem?_eq_getElem hl)
      simp [hl, this]
    have e3 := cmp1_me (m := m) (m' := m) (fun _ => rfl) h
    simp [evS, evSs, evE, evEs, finV, bfn, cmpR, cmpV.eq_3, intCmp, subV, atV, g.top, e1, hg, g.len, c5, e2, e3]
  · simp [evS, evSs, evE, evEs, finV, bfn, cmpR, cmpV, intCmp, subV, atV, g.top, e1, hg, g.len, c5]
theorem s14 (n : Nat) (L N : Nat) (lg : Nat → List Me) (rs : List Nat) (i : Nat) (h : MH) (g : Lg h L N lg rs) (ok : Ok N lg) (hi : i < N) (m : Me) (hm : m ∈ lg i) :
    ∃ h', callF T (n + 2) 14 [.ref L, m.pv] h = some (.ok .non h') ∧ Grow [] h h' := by
  obtain ⟨h1, q1, q2, q3, q4⟩ := s17 n m h
  have g1 := g.grow q4
  have two := ok.two i hi m hm
  have l1 : lensetV (.ref h.nx) h1 = some 2 := by
    simp [lensetV, q2, intsM]
    exact two
  have st1 : evS T (callF T (n + 1)) (.ifs (.cmp 1 (.lenset (.call 17 [(.loc 1)])) (.bf 0 [(.sub (.loc 1) (.cst (.int 1)))])) [
      .raise 1 []] []) [some (.ref L), some m.pv, none, none, none, none] h = some (.nx [some (.ref L), some m.pv, none, none, none, none] h1) := by
    simp [evS, evSs, evE, evEs, finV, q1, l1, Me.pv, bfn, subV, atV, atI, ixN, cmpR, cmp1_int] at q1 ⊢
  obtain ⟨σ', h', z1, z2⟩ := foL_run (g := evG T (callF T (n + 1)) (.tp [(.nm 2), (.nm 3), (.nm 4), (.nm 5)])) (b := evSs T (callF T (n + 1)) bd14) (r := .tup [m.x.pv, m.y.pv]) (n := 2)
      (fun j σ hh => (∃ o2 o3 o4 o5, σ = [some (.ref L), some m.pv, o2, o3, o4, o5]) ∧ hh = h1)
      (fun j σ hh hj hp => by
        obtain ⟨⟨o2, o3, o4, o5, rfl⟩, rfl⟩ := hp
        obtain ⟨z, hz, e⟩ : ∃ z : Pa, Has m z.a z.t ∧ [m.x.pv, m.y.pv][j]? = some z.pv := by
          match j, hj with
          | 0, _ => exact ⟨m.x, .inl ⟨rfl, rfl⟩, rfl⟩
          | 1, _ => exact ⟨m.y, .inr ⟨rfl, rfl⟩, rfl⟩
        refine ⟨z.pv, [some (.ref L), some m.pv, some (.int z.a), some (.int z.t), some (.int z.p), some (.int z.q)], hh, [some (.ref L), some m.pv, some (.int z.a), some (.int z.t), some (.int z.p), some (.int z.q)], hh, ?_, ?_, body14 _ g1 ok hi hm hz, ⟨_, _, _, _, rfl⟩, rfl⟩
        · exact e
        · simp [evG, evGs, Pa.pv])
      (fun σ hh hp => by simp [IT.at, endL, IT.len])
      2 0 LF [some (.ref L), some m.pv, none, none, none, none] h1 (by omega) (by unfold LF; omega) ⟨⟨_, _, _, _, rfl⟩, rfl⟩
  obtain ⟨_, rfl⟩ := z2
  exact ⟨h', callw [some (.ref L), some m.pv, none, none, none, none] fn14 rfl rfl (ssc st1 (ssc (forc (r := .tup [m.x.pv, m.y.pv]) (h1 := h') (by simp [evI, evE, finV, Me.pv, subV, atV, atI, ixN]) z1) ssn)) rfl, q4⟩
end K71
namespace K71
open PySem PySem.Spec L2 Mp
theorem dedup_nodup : ∀ {l : List (List Int)}, l.Nodup → dedupM l = l
  | [], _ => rfl
  | a :: r, h => by
    unfold dedupM
    rw [if_neg (List.nodup_cons.mp h).1, dedup_nodup (List.nodup_cons.mp h).2]
theorem dedup_le : ∀ l : List (List Int), (dedupM l).length ≤ l.length
  | [] => Nat.le_refl _
  | a :: r => by
    have := dedup_le r
    unfold dedupM
    split <;> simp <;> omega
theorem dedup_lt : ∀ {l : List (List Int)}, ¬ l.Nodup → (dedupM l).length < l.length
  | [], h => absurd List.nodup_nil h
  | a :: r, h => by
    have hl := dedup_le r
    unfold dedupM
    by_cases e : a ∈ r
    · rw [if_pos e]; simp; omega
    · rw [if_neg e]
      have : ¬ r.Nodup := fun z => h (List.nodup_cons.mpr ⟨e, z⟩)
      have := dedup_lt this
      simp; omega
def ptsV (m : Me) : List PV := [.tup [.int m.x.a, .int m.x.t], .tup [.int m.y.a, .int m.y.t]]
theorem tups_pts : ∀ F : List Me, tupsM (F.flatMap ptsV) = some (F.flatMap pts)
  | [] => rfl
  | m :: r => by
    rw [List.flatMap_cons, List.flatMap_cons]
    show (intsM [.int m.x.a, .int m.x.t]).bind (fun is => (tupsM (.tup [.int m.y.a, .int m.y.t] :: r.flatMap ptsV)).map (is :: ·)) = _
    have : tupsM (.tup [.int m.y.a, .int m.y.t] :: r.flatMap ptsV) = (intsM [.int m.y.a, .int m.y.t]).bind (fun is => (tupsM (r.flatMap ptsV)).map (is :: ·)) := rfl
    rw [this, tups_pts r]
    simp [intsM, pts]
theorem pts_len : ∀ F : List Me, (F.flatMap ptsV).length = 2 * F.length
  | [] => rfl
  | m :: r => by
    rw [List.flatMap_cons, List.length_append, pts_len r]
    simp [ptsV]
    omega
theorem pts_len' : ∀ F : List Me, (F.flatMap pts).length = 2 * F.length
  | [] => rfl
  | m :: r => by
    rw [List.flatMap_cons, List.length_append, pts_len' r]
    simp [pts]
    omega
theorem lenset_pts {h : MH} {D : Nat} {F : List Me} (e : h.get D = some (.lst (F.flatMap ptsV))) (hl : F.length < 32) : lensetV (.ref D) h = some ((dedupM (F.flatMap pts)).length : Int) := by
  have t := tups_pts F
  have l := pts_len' F
  have l2 : (F.flatMap pts).length < 64 := by omega
  match F, e, t, l2 with
  | [], e, _, _ =>
    have e' : h.get D = some (.lst []) := e
    simp [lensetV, e', intsM, dedupM]
  | m :: r, e, t, l2 =>
    have q : intsM ((m :: r).flatMap ptsV) = none := by
      rw [List.flatMap_cons]
      rfl
    simp only [lensetV, e, q, t, l2, if_true]
/-! ### all_meetings: the walk -/
structure FI (N : Nat) (lg : Nat → List Me) (i j : Nat) (F : List Me) : Prop where
  nd : F.Nodup
  sub : ∀ m ∈ F, ∃ i', i' < N ∧ m ∈ lg i'
  old : ∀ i', i' < i → ∀ m ∈ lg i', m ∈ F
  cur : ∀ j', j' < j → ∀ m, (lg i)[j']? = some m → m ∈ F
  len : F.length ≤ 2 * i + j
theorem FI.next {N : Nat} {lg : Nat → List Me} {i : Nat} {F : List Me} (f : FI N lg i (lg i).length F) (sz : (lg i).length ≤ 2) : FI N lg (i + 1) 0 F := by
  refine ⟨f.nd, f.sub, fun i' hi m hm => ?_, fun j' hj => by omega, by have := f.len; omega⟩
  by_cases e : i' = i
  · subst e
    obtain ⟨j, hj, e⟩ := List.getElem_of_mem hm
    exact f.cur j hj m (by rw [List.getElem?_eq_getElem hj, e])
  · exact f.old i' (by omega) m hm
theorem fn15 : T.fns[15]? = some f15 := rfl
def i15 : List MS := [.ifs (.cmp 7 (.loc 4) (.loc 1)) [
            .ex (.bm 10 (.loc 1) [(.loc 4)])] []]
theorem t15 (C : Orc) {R : Nat} {F : List Me} {m : Me} {o0 o2 o3 o5 : Option PV} {hh : MH} (hg : hh.get R = some (.lst (F.map Me.pv))) (hk : ∀ z ∈ F, Key2 z m) (hl : F.length < 100) :
    ∃ F' h', (F' = F ∨ F' = F ++ [m]) ∧ m ∈ F' ∧ (F.Nodup → F'.Nodup) ∧ evSs T C i15 [o0, some (.ref R), o2, o3, some m.pv, o5] hh = some (.nx [o0, some (.ref R), o2, o3, some m.pv, o5] h') ∧ ((h' = hh ∧ F' = F) ∨ h' = hh.put R (.lst (F'.map Me.pv))) := by
  have hb : F.length < big := by unfold big; omega
  have e := cmp7_me hg hk
  by_cases z : (F.any fun z => decide (z.k = m.k)) = true
  · rw [z] at e
    obtain ⟨q, hq, hqk⟩ := List.any_eq_true.mp z
    have : q = m := hk q hq (of_decide_eq_true hqk)
    subst this
    refine ⟨F, hh, .inl rfl, hq, id, ?_, .inl ⟨rfl, rfl⟩⟩
    simp [i15, evSs, evS, evE, finV, cmpR, e]
  · have z' := Bool.eq_false_iff.mpr z
    rw [z'] at e
    have hn : m ∉ F := fun hm => z (List.any_eq_true.mpr ⟨m, hm, by simp⟩)
    refine ⟨F ++ [m], hh.put R (.lst ((F ++ [m]).map Me.pv)), .inr rfl, by simp, fun nd => ?_, ?_, .inr rfl⟩
    · refine List.nodup_append.mpr ⟨nd, by simp, fun a ha b hb' e' => ?_⟩
      rw [List.mem_singleton.mp hb'] at e'
      subst e'
      exact hn ha
    · simp [i15, evSs, evS, evE, evEs, finV, cmpR, e, tyB, hg, bmn, hb]
/-- the heap of the walk: only R differs -/
structure FH (h : MH) (R : Nat) (F : List Me) (hh : MH) : Prop where
  at' : hh.get R = some (.lst (F.map Me.pv))
  gw : Grow [] h hh
  lt : R < hh.nx
theorem inner15 (C : Orc) {L N : Nat} {lg : Nat → List Me} {rs : List Nat} {h : MH} {R : Nat} (hR : h.nx ≤ R) (g : Lg h L N lg rs) (ok : Ok N lg) {i : Nat} (hi : i < N) (hN : N ≤ 6) {r : Nat} (hr : rs[i]? = some r) (o4 : Option PV) (F : List Me) (hh : MH) (f : FI N lg i 0 F) (H : FH h R F hh) :
    ∃ F' o4' h', foL (evG T C (.nm 4)) (evSs T C i15) (.live r) LF 0 [some (.ref L), some (.ref R), some (.ref r), none, o4, none] hh = some (.nx [some (.ref L), some (.ref R), some (.ref r), none, o4', none] h') ∧ FI N lg (i + 1) 0 F' ∧ FH h R F' h' := by
  obtain ⟨rlt, hg⟩ := g.at' i r hr
  have sz := ok.sz i hi
  obtain ⟨σ', h', z1, F', o4', z2, z3, z4⟩ := foL_run (g := evG T C (.nm 4)) (b := evSs T C i15) (r := .live r) (n := (lg i).length)
    (fun j σ hh => ∃ F o4, σ = [some (.ref L), some (.ref R), some (.ref r), none, o4, none] ∧ FI N lg i j F ∧ FH h R F hh)
    (fun j σ hh hj hp => by
      obtain ⟨F, o4, rfl, f, H⟩ := hp
      have hm : (lg i)[j] ∈ lg i := List.getElem_mem hj
      have fl := f.len
      obtain ⟨F', h', y1, y2, y3, y4, y5⟩ := t15 C (m := (lg i)[j]) (o0 := some (.ref L)) (o2 := some (.ref r)) (o3 := none) (o5 := none) H.at' (fun z hz => by
        obtain ⟨i', hi', hm'⟩ := f.sub z hz
        exact ok.key i' i hi' hi z hm' _ hm) (by omega)
      refine ⟨(lg i)[j].pv, [some (.ref L), some (.ref R), some (.ref r), none, some (lg i)[j].pv, none], hh, [some (.ref L), some (.ref R), some (.ref r), none, some (lg i)[j].pv, none], h', ?_, ?_, y4, F', some (lg i)[j].pv, rfl, ?_, ?_⟩
      · have e2 : hh.get r = some (.lst ((lg i).map Me.pv)) := (H.gw.2 r rlt (by simp)).trans hg
        simp [IT.at, e2, hj]
      · simp [evG]
      · refine ⟨y3 f.nd, fun m hm' => ?_, fun i' hi' m hm' => ?_, fun j' hj' m hm' => ?_, ?_⟩
        · rcases y1 with e | e
          · rw [e] at hm'; exact f.sub m hm'
          · rw [e] at hm'
            rcases List.mem_append.mp hm' with q | q
            · exact f.sub m q
            · rw [List.mem_singleton.mp q]; exact ⟨i, hi, hm⟩
        · have := f.old i' hi' m hm'
          rcases y1 with e | e <;> rw [e]
          · exact this
          · exact List.mem_append_left _ this
        · by_cases e : j' = j
          · subst e
            rw [List.getElem?_eq_getElem hj] at hm'
            cases hm'
            exact y2
          · have := f.cur j' (by omega) m hm'
            rcases y1 with e | e <;> rw [e]
            · exact this
            · exact List.mem_append_left _ this
        · rcases y1 with e | e <;> rw [e]
          · omega
          · rw [List.length_append]; simp; omega
      · rcases y5 with ⟨e, e'⟩ | e
        · rw [e, e']; exact H
        · rw [e]; exact ⟨MH.put_same, H.gw.put hR, H.lt⟩)
    (fun σ hh hp => by
      obtain ⟨F, o4, rfl, f, H⟩ := hp
      have e2 : hh.get r = some (.lst ((lg i).map Me.pv)) := (H.gw.2 r rlt (by simp)).trans hg
      simp [IT.at, endL, IT.len, e2])
    (lg i).length 0 LF [some (.ref L), some (.ref R), some (.ref r), none, o4, none] hh (by omega) (by unfold LF; omega) ⟨F, o4, rfl, f, H⟩
  subst z2
  exact ⟨F', o4', h', z1, z3.next sz, z4⟩
def o15 : List MS := [.for (.nm 4) (.ex (.loc 2)) i15]
theorem outer15 (C : Orc) {L N : Nat} {lg : Nat → List Me} {rs : List Nat} {h : MH} {R : Nat} (hR : h.nx ≤ R) (g : Lg h L N lg rs) (ok : Ok N lg) (hN : N ≤ 6) (hh : MH) (H : FH h R [] hh) :
    ∃ F o2 o4 h', foL (evG T C (.nm 2)) (evSs T C o15) (.live L) LF 0 [some (.ref L), some (.ref R), none, none, none, none] hh = some (.nx [some (.ref L), some (.ref R), o2, none, o4, none] h') ∧ Fnd N lg F ∧ F.length ≤ 12 ∧ FH h R F h' := by
  obtain ⟨σ', h', z1, F', o2, o4, z2, z3, z4⟩ := foL_run (g := evG T C (.nm 2)) (b := evSs T C o15) (r := .live L) (n := N)
    (fun i σ hh => ∃ F o2 o4, σ = [some (.ref L), some (.ref R), o2, none, o4, none] ∧ FI N lg i 0 F ∧ FH h R F hh)
    (fun i σ hh hi hp => by
      obtain ⟨F, o2, o4, rfl, f, H⟩ := hp
      obtain ⟨r, hr, rlt, hg⟩ := g.get hi
      obtain ⟨F', o4', h', y1, y2, y3⟩ := inner15 C hR g ok hi hN hr o4 F hh f H
      refine ⟨.ref r, [some (.ref L), some (.ref R), some (.ref r), none, o4, none], hh, [some (.ref L), some (.ref R), some (.ref r), none, o4', none], h', ?_, ?_, ssc (forc (r := .live r) (h1 := hh) ?_ y1) ssn, F', some (.ref r), o4', rfl, y2, y3⟩
      · have e2 : hh.get L = some (.lst (rs.map .ref)) := (H.gw.2 L g.lt (by simp)).trans g.top
        simp [IT.at, e2, hr]
      · simp [evG]
      · have e2 : hh.get r = some (.lst ((lg i).map Me.pv)) := (H.gw.2 r rlt (by simp)).trans hg
        simp [evI, evE, finV, e2])
    (fun σ hh hp => by
      obtain ⟨F, o2, o4, rfl, f, H⟩ := hp
      have e2 : hh.get L = some (.lst (rs.map .ref)) := (H.gw.2 L g.lt (by simp)).trans g.top
      have e3 : rs[N]? = none := List.getElem?_eq_none (by rw [g.len]; exact Nat.le_refl _)
      simp [IT.at, endL, IT.len, e2, e3, g.len])
    N 0 LF [some (.ref L), some (.ref R), none, none, none, none] hh (by omega) (by unfold LF; omega) ⟨[], none, none, rfl, ⟨by simp, by simp, by omega, by omega, by simp⟩, H⟩
  subst z2
  refine ⟨F', o2, o4, h', z1, ⟨z3.nd, fun m => ⟨z3.sub m, fun ⟨i, hi, hm⟩ => z3.old i hi m hm⟩⟩, ?_, z4⟩
  have := z3.len
  omega
end K71
namespace K71
open PySem PySem.Spec L2 Mp
def tk15 : ME := .lcomp2 [4, 5] [5] (.tup [(.sub (.loc 5) (.cst (.int 0))), (.sub (.loc 5) (.cst (.int 1)))]) (.nm 4) (.ex (.loc 1)) [] (.nm 5) (.ex (.sub (.loc 4) (.cst (.int 1)))) []
theorem take_succ_flat {F : List Me} {f : Me → List PV} {i : Nat} (hi : i < F.length) : (F.take (i + 1)).flatMap f = (F.take i).flatMap f ++ f F[i] := by
  rw [List.take_succ, List.getElem?_eq_getElem hi, List.flatMap_append]
  simp
theorem inner_tk (C : Orc) (L R D : Nat) (o2 : Option PV) (m : Me) (h : MH) (acc : List PV) (hl : acc.length < 1000) (hg : h.get D = some (.lst acc)) :
    cpL (evG T C (.nm 5)) (evTs T C []) [5] (.tup [m.x.pv, m.y.pv]) D [some (.ref L), some (.ref R), o2, none, some m.pv, none] (evE T C false (.tup [(.sub (.loc 5) (.cst (.int 0))), (.sub (.loc 5) (.cst (.int 1)))])) LF 0 h = some ((h.put D (.lst (acc ++ [.tup [.int m.x.a, .int m.x.t]]))).put D (.lst (acc ++ ptsV m))) := by
  have b1 : acc.length < 1000000 := by omega
  have b2 : acc.length + 1 < 1000000 := by omega
  simp [evE, evEs, evI, evG, evTs, finV, Me.pv, Pa.pv, subV, atV, atI, ixN, LF3, cpL, wipeM, IT.at, endL, IT.len, MH.put_same, hg, b1, b2, big, ptsV]
theorem tk_ok (C : Orc) (L R : Nat) (o2 o4 : Option PV) (F : List Me) (h : MH) (hl : F.length ≤ 12) (hg : h.get R = some (.lst (F.map Me.pv))) (hR : R < h.nx) :
    ∃ h', evE T C false tk15 [some (.ref L), some (.ref R), o2, none, o4, none] h = some (.ref h.nx, h') ∧ h'.get h.nx = some (.lst (F.flatMap ptsV)) ∧ h.nx < h'.nx ∧ Grow [] h h' := by
  obtain ⟨h', z1, z2, z3, z4⟩ := cqL_run (g := evG T C (.nm 4)) (ts := evTs T C []) (own := [4, 5]) (r := .live R) (σ := [some (.ref L), some (.ref R), o2, none, o4, none])
    (inner := fun σ2 h3 => match evI T C (.ex (.sub (.loc 4) (.cst (.int 1)))) σ2 h3 with
        | some (r1, h4) => cpL (evG T C (.nm 5)) (evTs T C []) [5] r1 h.nx σ2 (evE T C false (.tup [(.sub (.loc 5) (.cst (.int 0))), (.sub (.loc 5) (.cst (.int 1)))])) LF 0 h4
        | none => none) (n := F.length)
    (fun i hh => hh.get h.nx = some (.lst ((F.take i).flatMap ptsV)) ∧ h.nx < hh.nx ∧ Grow [] h hh)
    (fun i hh hi hp => by
      obtain ⟨p1, p2, p3⟩ := hp
      have e2 : hh.get R = some (.lst (F.map Me.pv)) := (p3.2 R hR (by simp)).trans hg
      have e3 : evI T C (.ex (.sub (.loc 4) (.cst (.int 1)))) [some (.ref L), some (.ref R), o2, none, some F[i].pv, none] hh = some (.tup [F[i].x.pv, F[i].y.pv], hh) := by
        simp [evI, evE, finV, Me.pv, subV, atV, atI, ixN]
      refine ⟨F[i].pv, [some (.ref L), some (.ref R), o2, none, some F[i].pv, none], hh, hh, (hh.put h.nx (.lst ((F.take i).flatMap ptsV ++ [.tup [.int F[i].x.a, .int F[i].x.t]]))).put h.nx (.lst ((F.take i).flatMap ptsV ++ ptsV F[i])), ?_, ?_, ?_, ?_, MH.put_same.trans (by rw [take_succ_flat hi]), p2, (p3.put (Nat.le_refl _)).put (Nat.le_refl _)⟩
      · simp [IT.at, e2, hi]
      · simp [evG, wipeM]
      · simp [evTs]
      · rw [e3]
        exact inner_tk C L R h.nx o2 F[i] hh _ (by rw [pts_len, List.length_take]; omega) p1)
    (fun hh hp => by
      obtain ⟨p1, p2, p3⟩ := hp
      have e2 : hh.get R = some (.lst (F.map Me.pv)) := (p3.2 R hR (by simp)).trans hg
      simp [IT.at, endL, IT.len, e2])
    F.length 0 LF (h.new (.lst [])) (by omega) (by unfold LF; omega) ⟨MH.new_same, Nat.lt_succ_self _, (Grow.refl [] h).new⟩
  rw [List.take_length] at z2
  refine ⟨h', ?_, z2, z3, z4⟩
  have e4 : evI T C (.ex (.loc 1)) [some (.ref L), some (.ref R), o2, none, o4, none] h = some (.live R, h) := by
    simp [evI, evE, finV, hg]
  unfold tk15 evE
  rw [e4]
  simp only
  rw [if_neg (by decide)]
  exact congrArg (fun z => match z with | some h2 => some (PV.ref h.nx, h2) | none => none) z1
theorem s15 (n : Nat) (L N : Nat) (lg : Nat → List Me) (rs : List Nat) (h : MH) (g : Lg h L N lg rs) (ok : Ok N lg) (hN : N ≤ 6) :
    ∃ F h' R, Fnd N lg F ∧ F.length ≤ 12 ∧ Grow [] h h' ∧ ((F.flatMap pts).Nodup → callF T (n + 1) 15 [.ref L] h = some (.ok (.ref R) h') ∧ h'.get R = some (.lst (F.map Me.pv)) ∧ R < h'.nx) ∧
      (¬ (F.flatMap pts).Nodup → callF T (n + 1) 15 [.ref L] h = some (.ex 1 [] h')) := by
  obtain ⟨F, o2, o4, h1, a1, a2, a3, a4⟩ := outer15 (callF T n) (R := h.nx) (Nat.le_refl _) g ok hN (h.new (.lst [])) ⟨MH.new_same, (Grow.refl [] h).new, Nat.lt_succ_self _⟩
  obtain ⟨h2, b1, b2, b3, b4⟩ := tk_ok (callF T n) L h.nx o2 o4 F h1 a3 a4.at' a4.lt
  have e0 : (h.new (.lst [])).get L = some (.lst (rs.map .ref)) := (MH.new_ne (Nat.ne_of_lt g.lt)).trans g.top
  have st1 : evS T (callF T n) (.asg (.nm 1) (.lst [])) [some (.ref L), none, none, none, none, none] h = some (.nx [some (.ref L), some (.ref h.nx), none, none, none, none] (h.new (.lst []))) := by
    simp [evS, evE, evEs, evG]
  have st2 : evS T (callF T n) (.for (.nm 2) (.ex (.loc 0)) o15) [some (.ref L), some (.ref h.nx), none, none, none, none] (h.new (.lst [])) = some (.nx [some (.ref L), some (.ref h.nx), o2, none, o4, none] h1) :=
    forc (r := .live L) (h1 := h.new (.lst [])) (by simp [evI, evE, finV, e0]) a1
  have st3 : evS T (callF T n) (.asg (.nm 3) tk15) [some (.ref L), some (.ref h.nx), o2, none, o4, none] h1 = some (.nx [some (.ref L), some (.ref h.nx), o2, some (.ref h1.nx), o4, none] h2) := by
    unfold evS
    rw [b1]
    simp [evG]
  have ls := lenset_pts b2 (by omega)
  have lb : bfn 0 [.ref h1.nx] h2 = some (.int (2 * F.length : Nat), h2) := by
    simp only [bfn, b2, pts_len]
  have fin2 : h2.get h.nx = some (.lst (F.map Me.pv)) := (b4.2 h.nx a4.lt (by simp)).trans a4.at'
  have gr : Grow [] h h2 := a4.gw.trans b4
  have pl := pts_len' F
  refine ⟨F, h2, h.nx, a2, a3, gr, fun nd => ⟨?_, fin2, Nat.lt_of_lt_of_le a4.lt b4.1⟩, fun nd => ?_⟩
  · rw [dedup_nodup nd, pl] at ls
    refine callw [some (.ref L), none, none, none, none, none] fn15 rfl rfl (ssc st1 (ssc st2 (ssc st3 (ssc (σ1 := [some (.ref L), some (.ref h.nx), o2, some (.ref h1.nx), o4, none]) (h1 := h2) ?_ (ssr (v := .ref h.nx) (h1 := h2) ?_))))) rfl
    · simp [evS, evSs, evE, evEs, finV, ls, lb, cmpR, cmp1_int]
    · simp [evS, evE, finV]
  · have lt := dedup_lt nd
    have ne : ((((dedupM (F.flatMap pts)).length : Nat) : Int) == ((2 * F.length : Nat) : Int)) = false := beq_eq_false_iff_ne.mpr (by omega)
    have st4 : evS T (callF T n) (.ifs (.cmp 1 (.lenset (.loc 3)) (.bf 0 [(.loc 3)])) [
      .raise 1 []] []) [some (.ref L), some (.ref h.nx), o2, some (.ref h1.nx), o4, none] h2 = some (.ex 1 [] [some (.ref L), some (.ref h.nx), o2, some (.ref h1.nx), o4, none] h2) := by
      have e5 : evE T (callF T n) true (.cmp 1 (.lenset (.loc 3)) (.bf 0 [(.loc 3)])) [some (.ref L), some (.ref h.nx), o2, some (.ref h1.nx), o4, none] h2 = some (.bl true, h2) := by
        simp only [evE, evEs, finV, ls, lb, cmpR, cmp1_int, List.getElem?_cons_succ, List.getElem?_cons_zero, Bool.false_eq_true, if_false, ne, Bool.not_false]
      unfold evS
      rw [e5]
      simp [evSs, evS, evEs, T, cls]
    refine callw [some (.ref L), none, none, none, none, none] fn15 rfl rfl (ssc st1 (ssc st2 (ssc st3 (f := .ex 1 [] [some (.ref L), some (.ref h.nx), o2, some (.ref h1.nx), o4, none] h2) ?_))) rfl
    unfold evSs
    rw [st4]
end K71
namespace K71
open PySem PySem.Spec L2 Mp
def zb (m : Me) (z : Pa) : Bool := (decide (z.a = m.x.a) && decide (z.t < m.x.t)) || (decide (z.a = m.y.a) && decide (z.t < m.y.t))
def bsV (m o : Me) : List PV := [.bl (zb m o.x), .bl (zb m o.y)]
def dk (m : Me) : List (Key × PV) := [(.inl m.x.a, .int m.x.t), (.inl m.y.a, .int m.y.t)]
def e16 : ME := .andE (.cmp 6 (.sub (.loc 3) (.cst (.int 0))) (.loc 2)) (.cmp 2 (.sub (.loc 3) (.cst (.int 1))) (.sub (.loc 2) (.sub (.loc 3) (.cst (.int 0)))))
theorem z16 (C : Orc) (m : Me) (two : m.x.a ≠ m.y.a) (z : Pa) (o0 o1 o4 : Option PV) (Dd : Nat) (h : MH) (hg : h.get Dd = some (.dict (dk m))) : evE T C false e16 [o0, o1, some (.ref Dd), some z.pv, o4] h = some (.bl (zb m z), h) := by
  have l1 : lookK (.inl z.a) (dk m) = if z.a = m.x.a then some (.int m.x.t) else if z.a = m.y.a then some (.int m.y.t) else none := by
    unfold lookK dk
    by_cases e1 : z.a = m.x.a
    · rw [if_pos e1]; simp [e1]
    · rw [if_neg e1]
      by_cases e2 : z.a = m.y.a
      · rw [if_pos e2]
        have : ¬ m.x.a = m.y.a := two
        simp [e2, this]
      · rw [if_neg e2]
        have h1 : ¬ m.x.a = z.a := fun e => e1 e.symm
        have h2 : ¬ m.y.a = z.a := fun e => e2 e.symm
        simp [h1, h2]
  have c6 : cmpR 6 (.int z.a) (.ref Dd) h = some (lookK (.inl z.a) (dk m)).isSome := by
    simp [cmpR, cmpV, Mp.inV, hg, Mp.keyOf]
  have cl : ∀ i j : Int, cmpR 2 (.int i) (.int j) h = some (decide (i < j)) := fun i j => rfl
  have a0 : atI [PV.int z.a, .int z.t, .int z.p, .int z.q] 0 = some (PV.int z.a) := rfl
  have a1 : atI [PV.int z.a, .int z.t, .int z.p, .int z.q] 1 = some (PV.int z.t) := rfl
  by_cases e1 : z.a = m.x.a
  · rw [if_pos e1] at l1
    have h2' : ¬ z.a = m.y.a := fun e => two (e1.symm.trans e)
    rw [l1] at c6
    simp only [e16, evE, finV, Pa.pv, List.getElem?_cons_succ, List.getElem?_cons_zero, subV, atV, a0, a1, c6, hg, Mp.keyOf, l1, cl, Option.isSome_some, Bool.false_eq_true, if_false]
    simp [zb, e1]
    intro z1
    exact absurd z1 two
  · rw [if_neg e1] at l1
    by_cases e2 : z.a = m.y.a
    · rw [if_pos e2] at l1
      rw [l1] at c6
      simp only [e16, evE, finV, Pa.pv, List.getElem?_cons_succ, List.getElem?_cons_zero, subV, atV, a0, a1, c6, hg, Mp.keyOf, l1, cl, Option.isSome_some, Bool.false_eq_true, if_false]
      simp [zb, e2]
      intro z1
      exact absurd z1.symm two
    · rw [if_neg e2] at l1
      rw [l1] at c6
      simp only [e16, evE, finV, Pa.pv, List.getElem?_cons_succ, List.getElem?_cons_zero, subV, atV, a0, a1, c6, hg, Mp.keyOf, l1, cl, Option.isSome_none, Bool.false_eq_true, if_false]
      simp [zb, e1, e2]
theorem inner16 (C : Orc) (o0 o1 : Option PV) (m o : Me) (two : m.x.a ≠ m.y.a) (Dd D : Nat) (hd : Dd ≠ D) (h : MH) (acc : List PV) (hl : acc.length < 1000) (hg : h.get D = some (.lst acc)) (hdg : h.get Dd = some (.dict (dk m))) :
    cpL (evG T C (.nm 3)) (evTs T C []) [3] (.tup [o.x.pv, o.y.pv]) D [o0, o1, some (.ref Dd), none, some o.pv] (evE T C false e16) LF 0 h = some ((h.put D (.lst (acc ++ [.bl (zb m o.x)]))).put D (.lst (acc ++ bsV m o))) := by
  have b1 : acc.length < 1000000 := by omega
  have b2 : acc.length + 1 < 1000000 := by omega
  have r1 := z16 C m two o.x o0 o1 (some o.pv) Dd h hdg
  have r2 := z16 C m two o.y o0 o1 (some o.pv) Dd (h.put D (.lst (acc ++ [.bl (zb m o.x)]))) ((MH.put_ne hd).trans hdg)
  simp [evG, evTs, LF3, cpL, wipeM, IT.at, endL, IT.len, MH.put_same, hg, b1, b2, big, bsV, r1, r2]
theorem bls16 (m : Me) : ∀ F : List Me, blsM (F.flatMap (bsV m)) = some (F.flatMap fun o => [zb m o.x, zb m o.y])
  | [] => rfl
  | o :: r => by
    have := bls16 m r
    rw [List.flatMap_cons, List.flatMap_cons]
    show (match blsM (r.flatMap (bsV m)) with | _ => ((blsM (r.flatMap (bsV m))).map (zb m o.y :: ·)).map (zb m o.x :: ·)) = _
    rw [this]
    rfl
theorem any16 (m : Me) : ∀ F : List Me, (F.flatMap fun o => [zb m o.x, zb m o.y]).any bfn.id' = F.any (blk m)
  | [] => rfl
  | o :: r => by
    rw [List.flatMap_cons, List.any_append, any16 m r, List.any_cons]
    congr 1
def t16 : ME := .lcomp2 [4, 3] [3] e16 (.nm 4) (.ex (.loc 1)) [] (.nm 3) (.ex (.sub (.loc 4) (.cst (.int 1)))) []
theorem bs_len (m : Me) : ∀ F : List Me, (F.flatMap (bsV m)).length = 2 * F.length
  | [] => rfl
  | o :: r => by
    rw [List.flatMap_cons, List.length_append, bs_len m r]
    simp [bsV]
    omega
theorem tk16 (C : Orc) (l Dd : Nat) (m : Me) (two : m.x.a ≠ m.y.a) (F : List Me) (h : MH) (hl : F.length ≤ 12) (hg : h.get l = some (.lst (F.map Me.pv))) (hR : l < h.nx) (hd : Dd < h.nx) (hdg : h.get Dd = some (.dict (dk m))) :
    ∃ h', evE T C false t16 [some m.pv, some (.ref l), some (.ref Dd), none, none] h = some (.ref h.nx, h') ∧ h'.get h.nx = some (.lst (F.flatMap (bsV m))) ∧ h.nx < h'.nx ∧ Grow [] h h' := by
  obtain ⟨h', z1, z2, z3, z4⟩ := cqL_run (g := evG T C (.nm 4)) (ts := evTs T C []) (own := [4, 3]) (r := .live l) (σ := [some m.pv, some (.ref l), some (.ref Dd), none, none])
    (inner := fun σ2 h3 => match evI T C (.ex (.sub (.loc 4) (.cst (.int 1)))) σ2 h3 with
        | some (r1, h4) => cpL (evG T C (.nm 3)) (evTs T C []) [3] r1 h.nx σ2 (evE T C false e16) LF 0 h4
        | none => none) (n := F.length)
    (fun i hh => hh.get h.nx = some (.lst ((F.take i).flatMap (bsV m))) ∧ h.nx < hh.nx ∧ Grow [] h hh)
    (fun i hh hi hp => by
      obtain ⟨p1, p2, p3⟩ := hp
      have e2 : hh.get l = some (.lst (F.map Me.pv)) := (p3.2 l hR (by simp)).trans hg
      have e2' : hh.get Dd = some (.dict (dk m)) := (p3.2 Dd hd (by simp)).trans hdg
      have e3 : evI T C (.ex (.sub (.loc 4) (.cst (.int 1)))) [some m.pv, some (.ref l), some (.ref Dd), none, some F[i].pv] hh = some (.tup [F[i].x.pv, F[i].y.pv], hh) := by
        simp [evI, evE, finV, Me.pv, subV, atV, atI, ixN]
      refine ⟨F[i].pv, [some m.pv, some (.ref l), some (.ref Dd), none, some F[i].pv], hh, hh, (hh.put h.nx (.lst ((F.take i).flatMap (bsV m) ++ [.bl (zb m F[i].x)]))).put h.nx (.lst ((F.take i).flatMap (bsV m) ++ bsV m F[i])), ?_, ?_, ?_, ?_, MH.put_same.trans (by rw [take_succ_flat hi]), p2, (p3.put (Nat.le_refl _)).put (Nat.le_refl _)⟩
      · simp [IT.at, e2, hi]
      · simp [evG, wipeM]
      · simp [evTs]
      · rw [e3]
        exact inner16 C (some m.pv) (some (.ref l)) m F[i] two Dd h.nx (by omega) hh _ (by rw [bs_len, List.length_take]; omega) p1 e2')
    (fun hh hp => by
      obtain ⟨p1, p2, p3⟩ := hp
      have e2 : hh.get l = some (.lst (F.map Me.pv)) := (p3.2 l hR (by simp)).trans hg
      simp [IT.at, endL, IT.len, e2])
    F.length 0 LF (h.new (.lst [])) (by omega) (by unfold LF; omega) ⟨MH.new_same, Nat.lt_succ_self _, (Grow.refl [] h).new⟩
  rw [List.take_length] at z2
  refine ⟨h', ?_, z2, z3, z4⟩
  have e4 : evI T C (.ex (.loc 1)) [some m.pv, some (.ref l), some (.ref Dd), none, none] h = some (.live l, h) := by
    simp [evI, evE, finV, hg]
  unfold t16 evE
  rw [e4]
  simp only
  rw [if_neg (by decide)]
  exact congrArg (fun z => match z with | some h2 => some (PV.ref h.nx, h2) | none => none) z1
theorem fn16 : T.fns[16]? = some f16 := rfl
theorem s16 (n : Nat) (l : Nat) (m : Me) (two : m.x.a ≠ m.y.a) (F : List Me) (h : MH) (hl : F.length ≤ 12) (hg : h.get l = some (.lst (F.map Me.pv))) (hR : l < h.nx) :
    ∃ h', callF T (n + 1) 16 [m.pv, .ref l] h = some (.ok (.bl (rdy F m)) h') ∧ Grow [] h h' := by
  have st1 : evS T (callF T n) (.asg (.nm 2) (.dcomp [3] (.sub (.loc 3) (.cst (.int 0))) (.sub (.loc 3) (.cst (.int 1))) (.nm 3) (.ex (.sub (.loc 0) (.cst (.int 1)))) [])) [some m.pv, some (.ref l), none, none, none] h = some (.nx [some m.pv, some (.ref l), some (.ref h.nx), none, none] (((h.new (.dict [])).put h.nx (.dict [(.inl m.x.a, .int m.x.t)])).put h.nx (.dict (dk m)))) := by
    have ne : ¬ m.x.a = m.y.a := two
    simp [evS, evE, evEs, evI, evG, evTs, finV, Me.pv, Pa.pv, subV, atV, atI, ixN, LF3, dpL, wipeM, IT.at, endL, IT.len, MH.new_same, MH.put_same, big, Mp.keyOf, Mp.putK, dk, ne]
  have g1 : Grow [] h (((h.new (.dict [])).put h.nx (.dict [(.inl m.x.a, .int m.x.t)])).put h.nx (.dict (dk m))) := ((Grow.refl [] h).new.put (Nat.le_refl _)).put (Nat.le_refl _)
  generalize hh : (((h.new (.dict [])).put h.nx (.dict [(.inl m.x.a, .int m.x.t)])).put h.nx (.dict (dk m))) = h1 at st1 g1
  have d1 : h1.get h.nx = some (.dict (dk m)) := by rw [← hh]; exact MH.put_same
  have n1 : h1.nx = h.nx + 1 := by rw [← hh]; rfl
  obtain ⟨h', q1, q2, q3, q4⟩ := tk16 (callF T n) l h.nx m two F h1 hl ((g1.2 l hR (by simp)).trans hg) (by omega) (by omega) d1
  refine ⟨h', callw [some m.pv, some (.ref l), none, none, none] fn16 rfl rfl (ssc st1 (ssr (v := .bl (rdy F m)) (h1 := h') ?_)) rfl, g1.trans q4⟩
  have e9 : bfn 9 [.ref h1.nx] h' = some (.bl (F.any (blk m)), h') := by
    simp only [bfn, seqM, q2, bls16, any16]
  show evS T (callF T n) (.ret (.not (.bf 9 [t16]))) _ _ = _
  simp [evS, evE, evEs, q1, e9, finV, rdy]
end K71
namespace K71
open PySem PySem.Spec L2 Mp
theorem take_succ_filter {F : List Me} {f : Me → Bool} {i : Nat} (hi : i < F.length) : (F.take (i + 1)).filter f = (F.take i).filter f ++ (if f F[i] = true then [F[i]] else []) := by
  rw [List.take_succ, List.getElem?_eq_getElem hi, List.filter_append]
  congr 1
  by_cases e : f F[i] = true
  · rw [if_pos e]
    exact List.filter_cons_of_pos e
  · rw [if_neg e]
    exact List.filter_cons_of_neg e
theorem comp_filter (C : Orc) (c : ME) (f : Me → Bool) (F : List Me) (hl : F.length ≤ 12) {l : Nat} {o0 o1 o2 o4 o5 o6 o7 : Option PV} (h : MH) (hg : h.get l = some (.lst (F.map Me.pv))) (hR : l < h.nx)
    (hc : ∀ m ∈ F, ∀ hh, Grow [] h hh → ∃ h3, evE T C true c [o0, o1, o2, some (.ref l), o4, some m.pv, o6, o7] hh = some (.bl (f m), h3) ∧ Grow [] hh h3) :
    ∃ h', evE T C false (.lcomp [5] (.loc 5) (.nm 5) (.ex (.loc 3)) [c]) [o0, o1, o2, some (.ref l), o4, o5, o6, o7] h = some (.ref h.nx, h') ∧ h'.get h.nx = some (.lst ((F.filter f).map Me.pv)) ∧ h.nx < h'.nx ∧ Grow [] h h' := by
  obtain ⟨h', z1, z2, z3, z4⟩ := cpL_run (g := evG T C (.nm 5)) (ts := evTs T C [c]) (own := [5]) (r := .live l) (D := h.nx) (σ := [o0, o1, o2, some (.ref l), o4, o5, o6, o7]) (ee := evE T C false (.loc 5)) (n := F.length)
    (fun i hh => hh.get h.nx = some (.lst (((F.take i).filter f).map Me.pv)) ∧ h.nx < hh.nx ∧ Grow [] h hh)
    (fun i hh hi hp => by
      obtain ⟨p1, p2, p3⟩ := hp
      have e2 : hh.get l = some (.lst (F.map Me.pv)) := (p3.2 l hR (by simp)).trans hg
      obtain ⟨h3, q1, q2⟩ := hc F[i] (List.getElem_mem hi) hh p3
      have p4 : h3.get h.nx = some (.lst (((F.take i).filter f).map Me.pv)) := (q2.2 h.nx p2 (by simp)).trans p1
      have fl : ((F.take i).filter f).length ≤ F.length := Nat.le_trans (List.length_filter_le _ _) (by rw [List.length_take]; omega)
      refine ⟨F[i].pv, [o0, o1, o2, some (.ref l), o4, some F[i].pv, o6, o7], hh, h3, ?_, ?_, ?_⟩
      · simp [IT.at, e2, hi]
      · simp [evG, wipeM]
      · by_cases e : f F[i] = true
        · rw [e] at q1
          refine .inr ⟨F[i].pv, h3, _, by simp only [evTs, q1], by simp [evE, finV], p4, by rw [List.length_map]; unfold big; omega, MH.put_same.trans (by rw [take_succ_filter hi, if_pos e, List.map_append]; rfl), Nat.lt_of_lt_of_le p2 q2.1, (p3.trans q2).put (Nat.le_refl _)⟩
        · rw [Bool.eq_false_iff.mpr e] at q1
          refine .inl ⟨by simp only [evTs, q1], ?_, Nat.lt_of_lt_of_le p2 q2.1, p3.trans q2⟩
          rw [take_succ_filter hi, if_neg e, List.append_nil]
          exact p4)
    (fun hh hp => by
      obtain ⟨p1, p2, p3⟩ := hp
      have e2 : hh.get l = some (.lst (F.map Me.pv)) := (p3.2 l hR (by simp)).trans hg
      simp [IT.at, endL, IT.len, e2])
    F.length 0 LF (h.new (.lst [])) (by omega) (by unfold LF; omega) ⟨MH.new_same, Nat.lt_succ_self _, (Grow.refl [] h).new⟩
  rw [List.take_length] at z2
  refine ⟨h', ?_, z2, z3, z4⟩
  have e4 : evI T C (.ex (.loc 3)) [o0, o1, o2, some (.ref l), o4, o5, o6, o7] h = some (.live l, h) := by
    simp [evI, evE, finV, hg]
  unfold evE
  rw [e4]
  simp only
  rw [if_neg (by decide)]
  exact congrArg (fun z => match z with | some h2 => some (PV.ref h.nx, h2) | none => none) z1
theorem Me.alike (m : Me) : PySem.W.alike m.dt m.dt = true := by
  simp [Me.dt, Pa.dt, PySem.W.alike, PySem.W.alikeAll]
theorem min1 {h : MH} {r : Nat} {m : Me} (e : h.get r = some (.lst ([m].map Me.pv))) : bfn 12 [.ref r] h = some (m.pv, h) := by
  have : minOk h m.pv = true := by
    unfold minOk
    rw [Me.data]
    simp [Me.alike]
    rfl
  simp [bfn, e, this]
def body12 : List MS := [
      .asg (.nm 6) (.lcomp [5] (.loc 5) (.nm 5) (.ex (.loc 3)) [(.call 16 [(.loc 5), (.loc 3)])]), 
      .ifs (.not (.loc 6)) [
        .raise 1 []] [], 
      .asg (.nm 7) (.bf 12 [(.loc 6)]), 
      .ex (.bm 10 (.loc 4) [(.loc 7)]), 
      .asg (.nm 3) (.lcomp [5] (.loc 5) (.nm 5) (.ex (.loc 3)) [(.cmp 1 (.loc 5) (.loc 7))])]
theorem ready_ok (n : Nat) (F : List Me) (hl : F.length ≤ 12) (two : ∀ m ∈ F, m.x.a ≠ m.y.a) {l : Nat} {o0 o1 o2 o4 o5 o6 o7 : Option PV} (h : MH) (hg : h.get l = some (.lst (F.map Me.pv))) (hR : l < h.nx) :
    ∃ h', evE T (callF T (n + 1)) false (.lcomp [5] (.loc 5) (.nm 5) (.ex (.loc 3)) [(.call 16 [(.loc 5), (.loc 3)])]) [o0, o1, o2, some (.ref l), o4, o5, o6, o7] h = some (.ref h.nx, h') ∧ h'.get h.nx = some (.lst ((F.filter (rdy F)).map Me.pv)) ∧ h.nx < h'.nx ∧ Grow [] h h' :=
  comp_filter (callF T (n + 1)) _ (rdy F) F hl h hg hR fun m hm hh gw => by
    obtain ⟨h3, q1, q2⟩ := s16 n l m (two m hm) F hh hl ((gw.2 l hR (by simp)).trans hg) (Nat.lt_of_lt_of_le hR gw.1)
    refine ⟨h3, ?_, q2⟩
    simp [evE, evEs, finV, q1, truthV]
theorem rest_ok (C : Orc) (F : List Me) (hl : F.length ≤ 12) (m : Me) (ky : ∀ z ∈ F, Key2 z m) {l : Nat} {o0 o1 o2 o4 o5 o6 : Option PV} (h : MH) (hg : h.get l = some (.lst (F.map Me.pv))) (hR : l < h.nx) :
    ∃ h', evE T C false (.lcomp [5] (.loc 5) (.nm 5) (.ex (.loc 3)) [(.cmp 1 (.loc 5) (.loc 7))]) [o0, o1, o2, some (.ref l), o4, o5, o6, some m.pv] h = some (.ref h.nx, h') ∧ h'.get h.nx = some (.lst ((F.filter fun z => !decide (z.k = m.k)).map Me.pv)) ∧ h.nx < h'.nx ∧ Grow [] h h' :=
  comp_filter C _ (fun z => !decide (z.k = m.k)) F hl h hg hR fun z hz hh gw => by
    refine ⟨hh, ?_, Grow.refl [] hh⟩
    have := cmp1_me (ky z hz) hh
    simp only [evE, List.getElem?_cons_succ, List.getElem?_cons_zero, finV, cmpR, this]
/-- the heap of the loop -/
structure WH (h0 : MH) (Rw : Nat) (acc : List Me) (l : Nat) (F : List Me) (h : MH) : Prop where
  gw : Grow [] h0 h
  rw : h.get Rw = some (.lst (acc.map Me.pv))
  lf : h.get l = some (.lst (F.map Me.pv))
  l1 : Rw < h.nx
  l2 : l < h.nx
  l3 : h0.nx ≤ Rw
  ne : l ≠ Rw
theorem loop12 (n : Nat) (h0 : MH) (Rw : Nat) (o0 o1 o2 : Option PV) : ∀ {F : List Me} {r : Option (List Me)}, Drain F r → ∀ (acc : List Me) (l : Nat) (o5 o6 o7 : Option PV) (h : MH) (fu : Nat), F.length < fu → acc.length + F.length ≤ 12 → (∀ m ∈ F, m.x.a ≠ m.y.a) → (∀ m ∈ F, ∀ z ∈ F, Key2 m z) → WH h0 Rw acc l F h →
    (∀ rows, r = some rows → ∃ l' o5' o6' o7' h', whL (evE T (callF T (n + 1)) true (.loc 3)) (evSs T (callF T (n + 1)) body12) fu [o0, o1, o2, some (.ref l), some (.ref Rw), o5, o6, o7] h = some (.nx [o0, o1, o2, some (.ref l'), some (.ref Rw), o5', o6', o7'] h') ∧ Grow [] h0 h' ∧ h'.get Rw = some (.lst ((acc ++ rows).map Me.pv)) ∧ Rw < h'.nx) ∧
    (r = none → ∃ σ' h', whL (evE T (callF T (n + 1)) true (.loc 3)) (evSs T (callF T (n + 1)) body12) fu [o0, o1, o2, some (.ref l), some (.ref Rw), o5, o6, o7] h = some (.ex 1 [] σ' h') ∧ Grow [] h0 h') := by
  intro F r d
  induction d with
  | nil =>
    intro acc l o5 o6 o7 h fu hf hb two ky W
    obtain ⟨fu, rfl⟩ : ∃ f, fu = f + 1 := ⟨fu - 1, by omega⟩
    refine ⟨fun rows e => ?_, fun e => by cases e⟩
    cases e
    refine ⟨l, o5, o6, o7, h, ?_, W.gw, by rw [List.append_nil]; exact W.rw, W.l1⟩
    have e1 := W.lf
    have : evE T (callF T (n + 1)) true (.loc 3) [o0, o1, o2, some (.ref l), some (.ref Rw), o5, o6, o7] h = some (.bl false, h) := by
      simp [evE, finV, truthV, e1]
    unfold whL
    rw [this]
  | @stuck F hne hr =>
    intro acc l o5 o6 o7 h fu hf hb two ky W
    obtain ⟨fu, rfl⟩ : ∃ f, fu = f + 1 := ⟨fu - 1, by omega⟩
    refine ⟨fun rows e => (nomatch e), fun _ => ?_⟩
    have e1 := W.lf
    have t1 : evE T (callF T (n + 1)) true (.loc 3) [o0, o1, o2, some (.ref l), some (.ref Rw), o5, o6, o7] h = some (.bl true, h) := by
      simp [evE, finV, truthV, e1, hne]
    obtain ⟨h1, q1, q2, q3, q4⟩ := ready_ok n F (by omega) two (o0 := o0) (o1 := o1) (o2 := o2) (o4 := some (.ref Rw)) (o5 := o5) (o6 := o6) (o7 := o7) h W.lf W.l2
    rw [hr] at q2
    refine ⟨[o0, o1, o2, some (.ref l), some (.ref Rw), o5, some (.ref h.nx), o7], h1, ?_, W.gw.trans q4⟩
    have s1 : evS T (callF T (n + 1)) (.asg (.nm 6) (.lcomp [5] (.loc 5) (.nm 5) (.ex (.loc 3)) [(.call 16 [(.loc 5), (.loc 3)])])) [o0, o1, o2, some (.ref l), some (.ref Rw), o5, o6, o7] h = some (.nx [o0, o1, o2, some (.ref l), some (.ref Rw), o5, some (.ref h.nx), o7] h1) := by
      unfold evS
      rw [q1]
      simp [evG]
    have s2 : evS T (callF T (n + 1)) (.ifs (.not (.loc 6)) [.raise 1 []] []) [o0, o1, o2, some (.ref l), some (.ref Rw), o5, some (.ref h.nx), o7] h1 = some (.ex 1 [] [o0, o1, o2, some (.ref l), some (.ref Rw), o5, some (.ref h.nx), o7] h1) := by
      have : evE T (callF T (n + 1)) true (.not (.loc 6)) [o0, o1, o2, some (.ref l), some (.ref Rw), o5, some (.ref h.nx), o7] h1 = some (.bl true, h1) := by
        simp [evE, finV, truthV, q2]
      unfold evS
      rw [this]
      simp [evSs, evS, evEs, T, cls]
    unfold whL
    rw [t1]
    simp only
    have : evSs T (callF T (n + 1)) body12 [o0, o1, o2, some (.ref l), some (.ref Rw), o5, o6, o7] h = some (.ex 1 [] [o0, o1, o2, some (.ref l), some (.ref Rw), o5, some (.ref h.nx), o7] h1) := by
      refine ssc s1 ?_
      unfold evSs
      rw [s2]
    rw [this]
  | @step F m r hr d ih =>
    intro acc l o5 o6 o7 h fu hf hb two ky W
    obtain ⟨fu, rfl⟩ : ∃ f, fu = f + 1 := ⟨fu - 1, by omega⟩
    have hmF : m ∈ F := (List.mem_filter.mp (by rw [hr]; exact List.mem_singleton.mpr rfl)).1
    have hne : F ≠ [] := fun e => by rw [e] at hmF; cases hmF
    have e1 := W.lf
    have t1 : evE T (callF T (n + 1)) true (.loc 3) [o0, o1, o2, some (.ref l), some (.ref Rw), o5, o6, o7] h = some (.bl true, h) := by
      simp [evE, finV, truthV, e1, hne]
    obtain ⟨h1, q1, q2, q3, q4⟩ := ready_ok n F (by omega) two (o0 := o0) (o1 := o1) (o2 := o2) (o4 := some (.ref Rw)) (o5 := o5) (o6 := o6) (o7 := o7) h W.lf W.l2
    rw [hr] at q2
    have s1 : evS T (callF T (n + 1)) (.asg (.nm 6) (.lcomp [5] (.loc 5) (.nm 5) (.ex (.loc 3)) [(.call 16 [(.loc 5), (.loc 3)])])) [o0, o1, o2, some (.ref l), some (.ref Rw), o5, o6, o7] h = some (.nx [o0, o1, o2, some (.ref l), some (.ref Rw), o5, some (.ref h.nx), o7] h1) := by
      unfold evS
      rw [q1]
      simp [evG]
    have s2 : evS T (callF T (n + 1)) (.ifs (.not (.loc 6)) [.raise 1 []] []) [o0, o1, o2, some (.ref l), some (.ref Rw), o5, some (.ref h.nx), o7] h1 = some (.nx [o0, o1, o2, some (.ref l), some (.ref Rw), o5, some (.ref h.nx), o7] h1) := by
      have : evE T (callF T (n + 1)) true (.not (.loc 6)) [o0, o1, o2, some (.ref l), some (.ref Rw), o5, some (.ref h.nx), o7] h1 = some (.bl false, h1) := by
        simp [evE, finV, truthV, q2]
      unfold evS
      rw [this]
      simp [evSs]
    have s3 : evS T (callF T (n + 1)) (.asg (.nm 7) (.bf 12 [(.loc 6)])) [o0, o1, o2, some (.ref l), some (.ref Rw), o5, some (.ref h.nx), o7] h1 = some (.nx [o0, o1, o2, some (.ref l), some (.ref Rw), o5, some (.ref h.nx), some m.pv] h1) := by
      have mm := min1 q2
      have : evE T (callF T (n + 1)) false (.bf 12 [(.loc 6)]) [o0, o1, o2, some (.ref l), some (.ref Rw), o5, some (.ref h.nx), o7] h1 = some (m.pv, h1) := by
        simp only [evE, evEs, List.getElem?_cons_succ, List.getElem?_cons_zero, finV, mm]
      unfold evS
      rw [this]
      simp [evG]
    have g1 := q4.2 Rw W.l1 (by simp)
    have g1' : h1.get Rw = some (.lst (acc.map Me.pv)) := g1.trans W.rw
    have s4 : evS T (callF T (n + 1)) (.ex (.bm 10 (.loc 4) [(.loc 7)])) [o0, o1, o2, some (.ref l), some (.ref Rw), o5, some (.ref h.nx), some m.pv] h1 = some (.nx [o0, o1, o2, some (.ref l), some (.ref Rw), o5, some (.ref h.nx), some m.pv] (h1.put Rw (.lst ((acc ++ [m]).map Me.pv)))) := by
      have : acc.length < big := by unfold big; omega
      simp [evS, evE, evEs, finV, tyB, bmn, g1', this]
    have lf2 : (h1.put Rw (.lst ((acc ++ [m]).map Me.pv))).get l = some (.lst (F.map Me.pv)) := (MH.put_ne W.ne).trans ((q4.2 l W.l2 (by simp)).trans W.lf)
    obtain ⟨h2, y1, y2, y3, y4⟩ := rest_ok (callF T (n + 1)) F (by omega) m (fun z hz => ky z hz m hmF) (o0 := o0) (o1 := o1) (o2 := o2) (o4 := some (.ref Rw)) (o5 := o5) (o6 := some (.ref h.nx)) (h1.put Rw (.lst ((acc ++ [m]).map Me.pv))) lf2 (Nat.lt_of_lt_of_le W.l2 q4.1)
    have s5 : evS T (callF T (n + 1)) (.asg (.nm 3) (.lcomp [5] (.loc 5) (.nm 5) (.ex (.loc 3)) [(.cmp 1 (.loc 5) (.loc 7))])) [o0, o1, o2, some (.ref l), some (.ref Rw), o5, some (.ref h.nx), some m.pv] (h1.put Rw (.lst ((acc ++ [m]).map Me.pv))) = some (.nx [o0, o1, o2, some (.ref h1.nx), some (.ref Rw), o5, some (.ref h.nx), some m.pv] h2) := by
      unfold evS
      rw [y1]
      simp [evG]
      rfl
    have fl : (F.filter fun z => !decide (z.k = m.k)).length < F.length := by
      refine List.length_filter_lt_length_iff_exists.mpr ⟨m, hmF, by simp⟩
    have nx1 : Rw < h1.nx := Nat.lt_of_lt_of_le W.l1 q4.1
    have W2 : WH h0 Rw (acc ++ [m]) h1.nx (F.filter fun z => !decide (z.k = m.k)) h2 :=
      ⟨((W.gw.trans q4).put W.l3).trans y4, (y4.2 Rw nx1 (by simp)).trans MH.put_same, y2, Nat.lt_of_lt_of_le nx1 y4.1, y3, W.l3, (Nat.ne_of_lt nx1).symm⟩
    have step : whL (evE T (callF T (n + 1)) true (.loc 3)) (evSs T (callF T (n + 1)) body12) (fu + 1) [o0, o1, o2, some (.ref l), some (.ref Rw), o5, o6, o7] h = whL (evE T (callF T (n + 1)) true (.loc 3)) (evSs T (callF T (n + 1)) body12) fu [o0, o1, o2, some (.ref h1.nx), some (.ref Rw), o5, some (.ref h.nx), some m.pv] h2 := by
      have bd : evSs T (callF T (n + 1)) body12 [o0, o1, o2, some (.ref l), some (.ref Rw), o5, o6, o7] h = some (.nx [o0, o1, o2, some (.ref h1.nx), some (.ref Rw), o5, some (.ref h.nx), some m.pv] h2) :=
        ssc s1 (ssc s2 (ssc s3 (ssc s4 (ssc s5 ssn))))
      rw [whL.eq_2, t1]
      simp only
      rw [bd]
    obtain ⟨i1, i2⟩ := ih (acc ++ [m]) h1.nx o5 (some (.ref h.nx)) (some m.pv) h2 fu (by omega) (by rw [List.length_append]; simp; omega) (fun z hz => two z (List.mem_filter.mp hz).1) (fun z hz w hw => ky z (List.mem_filter.mp hz).1 w (List.mem_filter.mp hw).1) W2
    rw [step]
    refine ⟨fun rows e => ?_, fun e => ?_⟩
    · cases r with
      | none => cases e
      | some rs =>
        obtain ⟨l', a, b, c, h', z1, z2, z3, z4⟩ := i1 rs rfl
        have : m :: rs = rows := by simpa using e
        subst this
        exact ⟨l', a, b, c, h', z1, z2, by rw [z3, List.append_assoc]; rfl, z4⟩
    · cases r with
      | none => exact i2 rfl
      | some rs => cases e
end K71
namespace K71
open PySem PySem.Spec L2 Mp
theorem ssx {T : Tab} {C : Orc} {s : MS} {ss : List MS} {σ σ1 : Ev} {h h1 : MH} {c : Nat} {fs : List (Nat × PV)} (e : evS T C s σ h = some (.ex c fs σ1 h1)) : evSs T C (s :: ss) σ h = some (.ex c fs σ1 h1) := by
  unfold evSs
  rw [e]
theorem fn12 : T.fns[12]? = some f12 := rfl
theorem fn1 : T.fns[1]? = some f1 := rfl
theorem fn2 : T.fns[2]? = some f2 := rfl
theorem fn3 : T.fns[3]? = some f3 := rfl
theorem fn9 : T.fns[9]? = some f9 := rfl
def p12a : MS := .for (.nm 1) (.rg1 (.bf 0 [(.loc 0)])) [
      .ex (.call 13 [(.loc 0), (.loc 1)])]
theorem loop12a (n : Nat) {L N : Nat} {lg : Nat → List Me} {rs : List Nat} {h : MH} (g : Lg h L N lg rs) (ok : Ok N lg) (hN : N ≤ 6) :
    ∃ o1 h', evS T (callF T (n + 1)) p12a [some (.ref L), none, none, none, none, none, none, none] h = some (.nx [some (.ref L), o1, none, none, none, none, none, none] h') ∧ Grow [] h h' := by
  obtain ⟨σ', h', z1, ⟨o1, z2⟩, z3⟩ := foL_run (g := evG T (callF T (n + 1)) (.nm 1)) (b := evSs T (callF T (n + 1)) [.ex (.call 13 [(.loc 0), (.loc 1)])]) (r := .rng 0 N) (n := N)
    (fun i σ hh => (∃ o1, σ = [some (.ref L), o1, none, none, none, none, none, none]) ∧ Grow [] h hh)
    (fun i σ hh hi hp => by
      obtain ⟨⟨o1, rfl⟩, gw⟩ := hp
      obtain ⟨h2, q1, q2⟩ := s13 n L N lg rs i hh (g.grow gw) ok hi
      refine ⟨.int (0 + (i : Nat)), [some (.ref L), some (.int (0 + (i : Nat))), none, none, none, none, none, none], hh, [some (.ref L), some (.int (0 + (i : Nat))), none, none, none, none, none, none], h2, ?_, ?_, ?_, ⟨_, rfl⟩, gw.trans q2⟩
      · simp [IT.at, hi]
      · simp [evG]
      · rw [show (0 + (i : Int)) = (i : Int) by omega]
        simp [evSs, evS, evE, evEs, finV, q1])
    (fun σ hh hp => by simp [IT.at, endL, IT.len])
    N 0 LF [some (.ref L), none, none, none, none, none, none, none] h (by omega) (by unfold LF; omega) ⟨⟨none, rfl⟩, Grow.refl [] h⟩
  subst z2
  refine ⟨o1, h', forc (r := .rng 0 N) (h1 := h) ?_ z1, z3⟩
  simp [evI, evE, evEs, finV, bfn, g.top, g.len]
  omega
def i12 : List MS := [.ex (.call 14 [(.loc 0), (.loc 5)])]
def p12b : MS := .for (.nm 2) (.ex (.loc 0)) [.for (.nm 5) (.ex (.loc 2)) i12]
theorem loop12i (n : Nat) {L N : Nat} {lg : Nat → List Me} {rs : List Nat} {h : MH} (g : Lg h L N lg rs) (ok : Ok N lg) {i : Nat} (hi : i < N) {r : Nat} (hr : rs[i]? = some r) (o1 o5 : Option PV) (hh : MH) (gw : Grow [] h hh) :
    ∃ o5' h', foL (evG T (callF T (n + 2)) (.nm 5)) (evSs T (callF T (n + 2)) i12) (.live r) LF 0 [some (.ref L), o1, some (.ref r), none, none, o5, none, none] hh = some (.nx [some (.ref L), o1, some (.ref r), none, none, o5', none, none] h') ∧ Grow [] h h' := by
  obtain ⟨rlt, hg⟩ := g.at' i r hr
  have sz := ok.sz i hi
  obtain ⟨σ', h', z1, ⟨o5', z2⟩, z3⟩ := foL_run (g := evG T (callF T (n + 2)) (.nm 5)) (b := evSs T (callF T (n + 2)) i12) (r := .live r) (n := (lg i).length)
    (fun j σ hh => (∃ o5, σ = [some (.ref L), o1, some (.ref r), none, none, o5, none, none]) ∧ Grow [] h hh)
    (fun j σ hh hj hp => by
      obtain ⟨⟨o5, rfl⟩, gw⟩ := hp
      obtain ⟨h2, q1, q2⟩ := s14 n L N lg rs i hh (g.grow gw) ok hi (lg i)[j] (List.getElem_mem hj)
      refine ⟨(lg i)[j].pv, [some (.ref L), o1, some (.ref r), none, none, some (lg i)[j].pv, none, none], hh, [some (.ref L), o1, some (.ref r), none, none, some (lg i)[j].pv, none, none], h2, ?_, ?_, ?_, ⟨_, rfl⟩, gw.trans q2⟩
      · have e2 : hh.get r = some (.lst ((lg i).map Me.pv)) := (gw.2 r rlt (by simp)).trans hg
        simp [IT.at, e2, hj]
      · simp [evG]
      · simp [i12, evSs, evS, evE, evEs, finV, q1])
    (fun σ hh hp => by
      have e2 : hh.get r = some (.lst ((lg i).map Me.pv)) := (hp.2.2 r rlt (by simp)).trans hg
      simp [IT.at, endL, IT.len, e2])
    (lg i).length 0 LF [some (.ref L), o1, some (.ref r), none, none, o5, none, none] hh (by omega) (by unfold LF; omega) ⟨⟨o5, rfl⟩, gw⟩
  subst z2
  exact ⟨o5', h', z1, z3⟩
theorem loop12b (n : Nat) {L N : Nat} {lg : Nat → List Me} {rs : List Nat} {h : MH} (g : Lg h L N lg rs) (ok : Ok N lg) (hN : N ≤ 6) (o1 : Option PV) :
    ∃ o2 o5 h', evS T (callF T (n + 2)) p12b [some (.ref L), o1, none, none, none, none, none, none] h = some (.nx [some (.ref L), o1, o2, none, none, o5, none, none] h') ∧ Grow [] h h' := by
  obtain ⟨σ', h', z1, ⟨o2, o5, z2⟩, z3⟩ := foL_run (g := evG T (callF T (n + 2)) (.nm 2)) (b := evSs T (callF T (n + 2)) [.for (.nm 5) (.ex (.loc 2)) i12]) (r := .live L) (n := N)
    (fun i σ hh => (∃ o2 o5, σ = [some (.ref L), o1, o2, none, none, o5, none, none]) ∧ Grow [] h hh)
    (fun i σ hh hi hp => by
      obtain ⟨⟨o2, o5, rfl⟩, gw⟩ := hp
      obtain ⟨r, hr, rlt, hg⟩ := g.get hi
      obtain ⟨o5', h', y1, y2⟩ := loop12i n g ok hi hr o1 o5 hh gw
      refine ⟨.ref r, [some (.ref L), o1, some (.ref r), none, none, o5, none, none], hh, [some (.ref L), o1, some (.ref r), none, none, o5', none, none], h', ?_, ?_, ssc (forc (r := .live r) (h1 := hh) ?_ y1) ssn, ⟨_, _, rfl⟩, y2⟩
      · have e2 : hh.get L = some (.lst (rs.map .ref)) := (gw.2 L g.lt (by simp)).trans g.top
        simp [IT.at, e2, hr]
      · simp [evG]
      · have e2 : hh.get r = some (.lst ((lg i).map Me.pv)) := (gw.2 r rlt (by simp)).trans hg
        simp [evI, evE, finV, e2])
    (fun σ hh hp => by
      have e2 : hh.get L = some (.lst (rs.map .ref)) := (hp.2.2 L g.lt (by simp)).trans g.top
      have e3 : rs[N]? = none := List.getElem?_eq_none (by rw [g.len]; exact Nat.le_refl _)
      simp [IT.at, endL, IT.len, e2, e3, g.len])
    N 0 LF [some (.ref L), o1, none, none, none, none, none, none] h (by omega) (by unfold LF; omega) ⟨⟨none, none, rfl⟩, Grow.refl [] h⟩
  subst z2
  refine ⟨o2, o5, h', forc (r := .live L) (h1 := h) ?_ z1, z3⟩
  simp [evI, evE, finV, g.top]
theorem s1 (n : Nat) (a r : Nat) (xs : List PV) (h : MH) (ha : h.get a = some (.ins 0 [])) (hr : h.get r = some (.lst xs)) (hlt : a < h.nx) :
    callF T (n + 1) 1 [.ref a, .ref r] h = some (.ok .non ((h.new (.lst xs)).put a (.ins 0 [(10, .ref h.nx)]))) := by
  have e : (h.new (.lst xs)).get a = some (.ins 0 []) := (MH.new_ne (Nat.ne_of_lt hlt)).trans ha
  have f : fldF T 0 10 = true := rfl
  refine callw [some (.ref a), some (.ref r)] fn1 rfl rfl (ssc (σ1 := [some (.ref a), some (.ref r)]) (h1 := (h.new (.lst xs)).put a (.ins 0 [(10, .ref h.nx)])) ?_ ssn) rfl
  simp [evS, evE, evEs, evG, finV, bfn, seqM, hr, e, f, putM]
/-- joined, where no place is taken twice -/
structure Joined (h h' : MH) (u : Nat) (rows : List Me) : Prop where
  gw : Grow [] h h'
  ins : ∃ r, h'.get u = some (.ins 0 [(10, .ref r)]) ∧ h'.get r = some (.lst (rows.map Me.pv)) ∧ r < h'.nx
  lt : u < h'.nx
theorem s12 (n : Nat) {L N : Nat} {lg : Nat → List Me} {rs : List Nat} {h : MH} (g : Lg h L N lg rs) (ok : Ok N lg) (hN : N ≤ 6) :
    ∃ F, Fnd N lg F ∧ (¬ (F.flatMap pts).Nodup → ∃ h', callF T (n + 3) 12 [.ref L] h = some (.ex 1 [] h') ∧ Grow [] h h') ∧
      ((F.flatMap pts).Nodup → Drain F none → ∃ h', callF T (n + 3) 12 [.ref L] h = some (.ex 1 [] h') ∧ Grow [] h h') ∧
      ((F.flatMap pts).Nodup → ∀ rows, Drain F (some rows) → ∃ u h', callF T (n + 3) 12 [.ref L] h = some (.ok (.ref u) h') ∧ Joined h h' u rows) := by
  obtain ⟨o1, h1, a1, a2⟩ := loop12a (n + 1) g ok hN
  obtain ⟨o2, o5, h2, b1, b2⟩ := loop12b n (g.grow a2) ok hN o1
  obtain ⟨F, h3, R, c1, c2, c3, c4, c5⟩ := s15 (n + 1) L N lg rs h2 ((g.grow a2).grow b2) ok hN
  have g2 := a2.trans b2
  have g3 := g2.trans c3
  have two : ∀ m ∈ F, m.x.a ≠ m.y.a := fun m hm => by
    obtain ⟨i, hi, hm'⟩ := (c1.mem m).mp hm
    exact ok.two i hi m hm'
  have ky : ∀ m ∈ F, ∀ z ∈ F, Key2 m z := fun m hm z hz => by
    obtain ⟨i, hi, hm'⟩ := (c1.mem m).mp hm
    obtain ⟨j, hj, hz'⟩ := (c1.mem z).mp hz
    exact ok.key i j hi hj m hm' z hz'
  refine ⟨F, c1, fun nd => ?_, fun nd dr => ?_, fun nd rows dr => ?_⟩
  · have c := c5 nd
    refine ⟨h3, callw [some (.ref L), none, none, none, none, none, none, none] fn12 rfl rfl (ssc a1 (ssc b1 (f := .ex 1 [] [some (.ref L), o1, o2, none, none, o5, none, none] h3) ?_)) rfl, g3⟩
    unfold evSs
    have : evS T (callF T (n + 2)) (.asg (.nm 3) (.call 15 [(.loc 0)])) [some (.ref L), o1, o2, none, none, o5, none, none] h2 = some (.ex 1 [] [some (.ref L), o1, o2, none, none, o5, none, none] h3) := by
      simp [evS, evE, evEs, evX, finV, c]
    rw [this]
  all_goals
    obtain ⟨d1, d2, d3⟩ := c4 nd
    have st3 : evS T (callF T (n + 2)) (.asg (.nm 3) (.call 15 [(.loc 0)])) [some (.ref L), o1, o2, none, none, o5, none, none] h2 = some (.nx [some (.ref L), o1, o2, some (.ref R), none, o5, none, none] h3) := by
      simp [evS, evE, evEs, evG, finV, d1]
    have st4 : evS T (callF T (n + 2)) (.asg (.nm 4) (.lst [])) [some (.ref L), o1, o2, some (.ref R), none, o5, none, none] h3 = some (.nx [some (.ref L), o1, o2, some (.ref R), some (.ref h3.nx), o5, none, none] (h3.new (.lst []))) := by
      simp [evS, evE, evEs, evG]
    have W : WH h h3.nx [] R F (h3.new (.lst [])) := ⟨g3.new, MH.new_same, (MH.new_ne (Nat.ne_of_lt d3)).trans d2, Nat.lt_succ_self _, Nat.lt_succ_of_lt d3, g3.1, Nat.ne_of_lt d3⟩
    obtain ⟨w1, w2⟩ := loop12 (n + 1) h h3.nx (some (.ref L)) o1 o2 dr [] R o5 none none (h3.new (.lst [])) LF (by unfold LF; omega) (by simpa using c2) two ky W
  · obtain ⟨σ', h', z1, z2⟩ := w2 rfl
    have this2 : evS T (callF T (n + 2)) (.while (.loc 3) body12) [some (.ref L), o1, o2, some (.ref R), some (.ref h3.nx), o5, none, none] (h3.new (.lst [])) = some (.ex 1 [] σ' h') := by
      unfold evS
      exact z1
    exact ⟨h', callw [some (.ref L), none, none, none, none, none, none, none] fn12 rfl rfl (ssc a1 (ssc b1 (ssc st3 (ssc st4 (ssx this2))))) rfl, z2⟩
  · obtain ⟨l', o5', o6', o7', h', z1, z2, z3, z4⟩ := w1 rows rfl
    have st5 : evS T (callF T (n + 2)) (.while (.loc 3) body12) [some (.ref L), o1, o2, some (.ref R), some (.ref h3.nx), o5, none, none] (h3.new (.lst [])) = some (.nx [some (.ref L), o1, o2, some (.ref l'), some (.ref h3.nx), o5', o6', o7'] h') := by
      unfold evS
      exact z1
    have m1 := s1 (n + 1) h'.nx h3.nx _ (h'.new (.ins 0 [])) MH.new_same ((MH.new_ne (Nat.ne_of_lt z4)).trans z3) (Nat.lt_succ_self _)
    have mf : methF T 0 0 = some 1 := rfl
    refine ⟨h'.nx, ((h'.new (.ins 0 [])).new (.lst (([] ++ rows).map Me.pv))).put h'.nx (.ins 0 [(10, .ref (h'.new (.ins 0 [])).nx)]), callw [some (.ref L), none, none, none, none, none, none, none] fn12 rfl rfl (ssc a1 (ssc b1 (ssc st3 (ssc st4 (ssc st5 (ssr (v := .ref h'.nx) (h1 := ((h'.new (.ins 0 [])).new (.lst (([] ++ rows).map Me.pv))).put h'.nx (.ins 0 [(10, .ref (h'.new (.ins 0 [])).nx)])) ?_)))))) rfl, ?_⟩
    · simp [evS, evE, evEs, finV, mf, m1]
    · refine ⟨z2.new.new.put z2.1, ⟨(h'.new (.ins 0 [])).nx, MH.put_same, ?_, ?_⟩, ?_⟩
      · exact (MH.put_ne (by show h'.nx + 1 ≠ h'.nx; omega)).trans MH.new_same
      · show h'.nx + 1 < h'.nx + 1 + 1; omega
      · show h'.nx < h'.nx + 1 + 1; omega
end K71
namespace K71
open PySem PySem.Spec L2 Mp
theorem s9none (n : Nat) {L N : Nat} {lg : Nat → List Me} {rs : List Nat} {h : MH} (g : Lg h L N lg rs) (ok : Ok N lg) (hN : N ≤ 6) (hy : ∀ F, Fnd N lg F → ¬ (F.flatMap pts).Nodup ∨ Drain F none) :
    ∃ h', callF T (n + 4) 9 [.ref L] h = some (.ok .non h') ∧ Grow [] h h' := by
  obtain ⟨F, c1, c2, c3, c4⟩ := s12 n g ok hN
  obtain ⟨h', q1, q2⟩ : ∃ h', callF T (n + 3) 12 [.ref L] h = some (.ex 1 [] h') ∧ Grow [] h h' := by
    by_cases nd : (F.flatMap pts).Nodup
    · rcases hy F c1 with e | e
      · exact absurd nd e
      · exact c3 nd e
    · exact c2 nd
  refine ⟨h', callw [some (.ref L), none, none] fn9 rfl rfl (ssr (v := .non) (h1 := h') ?_) rfl, q2⟩
  simp [evS, evSs, evE, evEs, evX, finV, q1, retOf]
theorem s2 (n : Nat) (u r : Nat) (xs : List PV) (h : MH) (hu : h.get u = some (.ins 0 [(10, .ref r)])) (hr : h.get r = some (.lst xs)) : callF T (n + 1) 2 [.ref u] h = some (.ok (.int xs.length) h) := by
  have f : fldF T 0 10 = true := rfl
  refine callw [some (.ref u)] fn2 rfl rfl (ssr (v := .int xs.length) (h1 := h) ?_) rfl
  simp [evS, evE, evEs, finV, hu, f, lookF, bfn, hr]
theorem s3 (n : Nat) (u r : Nat) (xs : List PV) (k : Nat) (x : PV) (h : MH) (hu : h.get u = some (.ins 0 [(10, .ref r)])) (hr : h.get r = some (.lst xs)) (hk : xs[k]? = some x) : callF T (n + 1) 3 [.ref u, .int k] h = some (.ok x h) := by
  have f : fldF T 0 10 = true := rfl
  have hl : k < xs.length := (List.getElem?_eq_some_iff.mp hk).1
  have c1 : ¬ ((k : Int) < 0) := by omega
  have c2 : ¬ ((xs.length : Int) ≤ k) := by omega
  have a1 : atI xs (k : Int) = some x := by
    unfold atI ixN
    rw [if_pos (by omega), if_pos (by omega)]
    exact hk
  refine callw [some (.ref u), some (.int k)] fn3 rfl rfl (ssc (σ1 := [some (.ref u), some (.int k)]) (h1 := h) ?_ (ssr (v := x) (h1 := h) ?_)) rfl
  · simp [evS, evSs, evE, evEs, finV, hu, f, lookF, bfn, hr, cmpR, cmpV, intCmp, c1, c2]
  · simp [evS, evE, evEs, finV, hu, f, lookF, hr, subV, atV, a1]
theorem s9some (n : Nat) {L N : Nat} {lg : Nat → List Me} {rs : List Nat} {h : MH} (g : Lg h L N lg rs) (ok : Ok N lg) (hN : N ≤ 6) (rows : List Me) (hrw : rows.length ≤ 12) (hy : ∀ F, Fnd N lg F → (F.flatMap pts).Nodup ∧ Drain F (some rows)) :
    ∃ v h', callF T (n + 4) 9 [.ref L] h = some (.ok (.ref v) h') ∧ Grow [] h h' ∧ h'.get v = some (.lst (rows.map Me.pv)) ∧ v < h'.nx := by
  obtain ⟨F, c1, c2, c3, c4⟩ := s12 n g ok hN
  obtain ⟨nd, dr⟩ := hy F c1
  obtain ⟨u, h1, q1, J⟩ := c4 nd rows dr
  obtain ⟨r, j1, j2, j3⟩ := J.ins
  have st1 : evS T (callF T (n + 3)) (.tryE [.asg (.nm 1) (.call 12 [(.loc 0)])] 1 [.ret (.cst .non)]) [some (.ref L), none, none] h = some (.nx [some (.ref L), some (.ref u), none] h1) := by
    simp [evS, evSs, evE, evEs, evG, finV, q1]
  have ml : methF T 0 4 = some 2 := rfl
  have mg : methF T 0 5 = some 3 := rfl
  have l2 := s2 (n + 2) u r _ h1 j1 j2
  have hrl : ((rows.map Me.pv).length : Int) = rows.length := by rw [List.length_map]
  rw [hrl] at l2
  have e4 : evI T (callF T (n + 3)) (.rg1 (.bf 0 [(.loc 1)])) [some (.ref L), some (.ref u), none] h1 = some (.rng 0 rows.length, h1) := by
    have b2 : (rows.length : Int) < 9223372036854775808 := by omega
    have b3 : (rows.length : Int) < 4611686018427387904 := by omega
    have b4 : (-4611686018427387904 : Int) ≤ rows.length := by omega
    simp [evI, evE, evEs, finV, bfn, j1, ml, l2, b2, b3, b4]
  obtain ⟨h', z1, z2, z3, z4⟩ := cpL_run (g := evG T (callF T (n + 3)) (.nm 2)) (ts := evTs T (callF T (n + 3)) []) (own := [2]) (r := .rng 0 rows.length) (D := h1.nx) (σ := [some (.ref L), some (.ref u), none]) (ee := evE T (callF T (n + 3)) false (.sub (.loc 1) (.loc 2))) (n := rows.length)
    (fun i hh => hh.get h1.nx = some (.lst ((rows.take i).map Me.pv)) ∧ h1.nx < hh.nx ∧ Grow [] h1 hh)
    (fun i hh hi hp => by
      obtain ⟨p1, p2, p3⟩ := hp
      have k1 := (p3.2 u J.lt (by simp)).trans j1
      have k2 := (p3.2 r j3 (by simp)).trans j2
      have k3 := s3 (n + 2) u r _ i rows[i].pv hh k1 k2 (by simp [hi])
      refine ⟨.int (0 + (i : Nat)), [some (.ref L), some (.ref u), some (.int i)], hh, hh, ?_, ?_, .inr ⟨rows[i].pv, hh, _, ?_, ?_, p1, ?_, MH.put_same.trans ?_, p2, p3.put (Nat.le_refl _)⟩⟩
      · simp [IT.at, hi]
      · simp [evG, wipeM]
      · simp [evTs]
      · simp [evE, finV, subV, k1, mg, k3]
      · rw [List.length_map, List.length_take]; unfold big; omega
      · rw [List.take_succ, List.getElem?_eq_getElem hi, List.map_append]; rfl)
    (fun hh hp => by simp [IT.at, endL, IT.len])
    rows.length 0 LF (h1.new (.lst [])) (by omega) (by unfold LF; omega) ⟨MH.new_same, Nat.lt_succ_self _, (Grow.refl [] h1).new⟩
  rw [List.take_length] at z2
  have e5 : evE T (callF T (n + 3)) false (.lcomp [2] (.sub (.loc 1) (.loc 2)) (.nm 2) (.rg1 (.bf 0 [(.loc 1)])) []) [some (.ref L), some (.ref u), none] h1 = some (.ref h1.nx, h') := by
    unfold evE
    rw [e4]
    simp only
    rw [if_neg (by decide)]
    exact congrArg (fun z => match z with | some h2 => some (PV.ref h1.nx, h2) | none => none) z1
  refine ⟨h1.nx, h', callw [some (.ref L), none, none] fn9 rfl rfl (ssc st1 (ssr (v := .ref h1.nx) (h1 := h') ?_)) rfl, J.gw.trans z4, z2, z3⟩
  unfold evS
  rw [e5]
end K71
namespace K71
open PySem PySem.Spec L2 Mp
def baseI (n : Nat) : List Int := (List.range n).map fun i => (0 + (i : Nat) : Int)
theorem base_len (n : Nat) : (baseI n).length = n := by simp [baseI]
theorem base_rng (n : Nat) : rngM 0 (n : Int) = (baseI n).map .int := by
  simp [rngM, baseI]
theorem erase_perm : ∀ (l : List Int) (j : Nat) (h : j < l.length), (l[j] :: l.eraseIdx j).Perm l
  | [], _, h => absurd h (by simp)
  | a :: r, 0, h => List.Perm.refl _
  | a :: r, j + 1, h => by
    have := erase_perm r j (by simpa using h)
    exact (List.Perm.swap _ _ _).trans (List.Perm.cons a this)
theorem s6 (n : Nat) (A : Nat) (row : List PV) (h : MH) (hr : h.get A = some (.lst row)) (hs : Small row) (hrl : row.length = 16) (hA : A < h.nx) :
    ∃ (N : Nat) (ms : List Int) (v : Nat) (h' : MH), callF T (n + 1) 6 [.ref A] h = some (.ok (.ref v) h') ∧ h'.get v = some (.lst (ms.map .int)) ∧ v < h'.nx ∧ Grow [] h h' ∧ 3 ≤ N ∧ N ≤ 6 ∧ ms.length = N ∧ ms.Perm (baseI N) := by
  obtain ⟨z, hz, z0, z1⟩ := getSmall hs (i := 0) (by omega)
  have m0 : 0 ≤ z.fmod 4 := Int.fmod_nonneg_of_pos _ (by decide)
  have m1 : z.fmod 4 < 4 := Int.fmod_lt_of_pos _ (by decide)
  obtain ⟨N, hN⟩ : ∃ N : Nat, 3 + z.fmod 4 = (N : Int) := ⟨(3 + z.fmod 4).toNat, by omega⟩
  have a1 : atI row 0 = some (.int z) := by
    unfold atI ixN
    rw [if_pos (by omega), if_pos (by omega)]
    exact hz
  have st1 : evS T (callF T n) (.asg (.nm 1) (.lrg (.bin 0 (.cst (.int 3)) (.bin 4 (.bf 2 [(.sub (.loc 0) (.cst (.int 0)))]) (.cst (.int 4)))))) [some (.ref A), none, none] h = some (.nx [some (.ref A), some (.ref h.nx), none] (h.new (.lst ((baseI N).map .int)))) := by
    have c1 : (0 : Int) ≤ N ∧ (N : Int) ≤ 1000000 := by omega
    have e4 : evE T (callF T n) false (.bin 0 (.cst (.int 3)) (.bin 4 (.bf 2 [(.sub (.loc 0) (.cst (.int 0)))]) (.cst (.int 4)))) [some (.ref A), none, none] h = some (.int N, h) := by
      simp [evE, evEs, finV, bfn, binV, subV, hr, atV, a1, hN]
    have e5 : evE T (callF T n) false (.lrg (.bin 0 (.cst (.int 3)) (.bin 4 (.bf 2 [(.sub (.loc 0) (.cst (.int 0)))]) (.cst (.int 4))))) [some (.ref A), none, none] h = some (.ref h.nx, h.new (.lst ((baseI N).map .int))) := by
      rw [← base_rng]
      rw [evE, e4]
      simp only [Bool.false_eq_true, if_false]
      rw [if_pos c1]
    unfold evS
    rw [e5]
    simp [evG]
  have lg : (h.new (.lst ((baseI N).map .int))).get h.nx = some (.lst ((baseI N).map .int)) := MH.new_same
  obtain ⟨h', y1, acc, left, y2, y3, y4, y5, y6, y7⟩ := cpL_run (g := evG T (callF T n) (.nm 2)) (ts := evTs T (callF T n) []) (own := [2]) (r := .rng 0 N) (D := h.nx + 1) (σ := [some (.ref A), some (.ref h.nx), none]) (ee := evE T (callF T n) false e6) (n := N)
    (fun i hh => ∃ acc left, hh.get (h.nx + 1) = some (.lst (acc.map .int)) ∧ hh.get h.nx = some (.lst (left.map .int)) ∧ h.nx + 1 < hh.nx ∧ Grow [] h hh ∧ acc.length = i ∧ (acc ++ left).Perm (baseI N))
    (fun i hh hi hp => by
      obtain ⟨acc, left, p1, p2, p3, p4, p5, p6⟩ := hp
      have pl : acc.length + left.length = N := by
        have := p6.length_eq
        rw [List.length_append, base_len] at this
        exact this
      obtain ⟨j, x, q1, q2, q3⟩ := pop_turn n A h.nx i hh row left ((p4.2 A hA (by simp)).trans hr) hs hrl p2 (by omega) (by omega) (by omega)
      refine ⟨.int (0 + (i : Nat)), [some (.ref A), some (.ref h.nx), some (.int (0 + (i : Nat)))], hh, hh, ?_, ?_, .inr ⟨.int x, _, _, ?_, q3, (MH.put_ne (by omega)).trans p1, ?_, acc ++ [x], left.eraseIdx j, MH.put_same.trans (by simp), (MH.put_ne (by omega)).trans MH.put_same, p3, (p4.put (Nat.le_refl _)).put (by omega), by simp [p5], ?_⟩⟩
      · simp [IT.at, hi]
      · simp [evG, wipeM]
      · simp [evTs]
      · rw [List.length_map]; unfold big; omega
      · have e : left[j] = x := by
          rw [List.getElem?_eq_getElem q1] at q2
          exact Option.some.inj q2
        have pm : (x :: left.eraseIdx j).Perm left := by
          rw [← e]
          exact erase_perm left j q1
        rw [List.append_assoc]
        exact (List.Perm.append_left acc pm).trans p6)
    (fun hh hp => by simp [IT.at, endL, IT.len])
    N 0 LF ((h.new (.lst ((baseI N).map .int))).new (.lst [])) (by omega) (by unfold LF; omega) ⟨[], baseI N, MH.new_same, (MH.new_ne (by show h.nx ≠ h.nx + 1; omega)).trans lg, Nat.lt_succ_self _, (Grow.refl [] h).new.new, rfl, List.Perm.refl _⟩
  have le : left = [] := by
    have := y7.length_eq
    rw [List.length_append, base_len] at this
    exact List.length_eq_zero_iff.mp (by omega)
  subst le
  rw [List.append_nil] at y7
  have e4 : evI T (callF T n) (.rg1 (.bf 0 [(.loc 1)])) [some (.ref A), some (.ref h.nx), none] (h.new (.lst ((baseI N).map .int))) = some (.rng 0 N, h.new (.lst ((baseI N).map .int))) := by
    have b3 : (N : Int) < 4611686018427387904 := by omega
    have b4 : (-4611686018427387904 : Int) ≤ N := by omega
    simp [evI, evE, evEs, finV, bfn, lg, base_len, b3, b4]
  have e5 : evE T (callF T n) false (.lcomp [2] e6 (.nm 2) (.rg1 (.bf 0 [(.loc 1)])) []) [some (.ref A), some (.ref h.nx), none] (h.new (.lst ((baseI N).map .int))) = some (.ref (h.nx + 1), h') := by
    unfold evE
    rw [e4]
    simp only
    rw [if_neg (by decide)]
    exact congrArg (fun z => match z with | some h2 => some (PV.ref (h.nx + 1), h2) | none => none) y1
  refine ⟨N, acc, h.nx + 1, h', callw [some (.ref A), none, none] fn6 rfl rfl (ssc st1 (ssr (v := .ref (h.nx + 1)) (h1 := h') ?_)) rfl, y2, y4, y5, by omega, by omega, y6, y7⟩
  show evS T (callF T n) (.ret (.lcomp [2] e6 (.nm 2) (.rg1 (.bf 0 [(.loc 1)])) [])) _ _ = _
  unfold evS
  rw [e5]
theorem ord_of {N : Nat} {ms : List Int} (h3 : 3 ≤ N) (h6 : N ≤ 6) (hl : ms.length = N) (pm : ms.Perm (baseI N)) : Ord N fun j => ms.getD j 0 := by
  have nd : ms.Nodup := pm.nodup_iff.mpr (by
    unfold baseI
    refine List.Pairwise.map _ (fun a b (hab : a ≠ b) => ?_) List.nodup_range
    omega)
  have mem : ∀ x ∈ ms, 0 ≤ x ∧ x < N := fun x hx => by
    have := pm.mem_iff.mp hx
    unfold baseI at this
    obtain ⟨i, hi, e⟩ := List.mem_map.mp this
    have := List.mem_range.mp hi
    omega
  have at' : ∀ j, j < N → ∃ hj : j < ms.length, ms.getD j 0 = ms[j] := fun j hj => ⟨by omega, by rw [List.getD_eq_getElem?_getD, List.getElem?_eq_getElem (by omega)]; rfl⟩
  refine ⟨fun j hj => ?_, fun j hj => ?_, fun i j hi hj e => ?_, h3, h6⟩
  · obtain ⟨q, e⟩ := at' j hj
    rw [e]
    exact (mem _ (List.getElem_mem q)).1
  · obtain ⟨q, e⟩ := at' j hj
    rw [e]
    exact (mem _ (List.getElem_mem q)).2
  · obtain ⟨q, e1⟩ := at' i hi
    obtain ⟨q', e2⟩ := at' j hj
    rw [e1, e2] at e
    exact (List.getElem_inj nd).mp e
end K71
namespace Mp
open PySem PySem.Spec L2
section
variable {T : Tab} {C : Orc} {σ : Ev} {h h1 h2 : MH}
theorem esn : evEs T C [] σ h = some ([], h) := by unfold evEs; rfl
theorem esc {e : ME} {es : List ME} {v : PV} {vs : List PV} (a : evE T C false e σ h = some (v, h1)) (b : evEs T C es σ h1 = some (vs, h2)) : evEs T C (e :: es) σ h = some (v :: vs, h2) := by
  unfold evEs
  rw [a]
  simp only [b]
theorem ecall {f : Nat} {as : List ME} {v : PV} {vs : List PV} (a : evEs T C as σ h = some (vs, h1)) (b : C f vs h1 = some (.ok v h2)) : evE T C false (.call f as) σ h = some (v, h2) := by
  unfold evE
  rw [a]
  simp only [b]
  rfl
theorem xcall {f : Nat} {as : List ME} {v : PV} {vs : List PV} (a : evEs T C as σ h = some (vs, h1)) (b : C f vs h1 = some (.ok v h2)) : evS T C (.ex (.call f as)) σ h = some (.nx σ h2) := by
  unfold evS
  rw [ecall a b]
theorem sasg {i : Nat} {e : ME} {v : PV} (a : evE T C false e σ h = some (v, h1)) : evS T C (.asg (.nm i) e) σ h = some (.nx (σ.set i (some v)) h1) := by
  unfold evS
  rw [a]
  simp only [evG]
theorem sret {e : ME} {v : PV} (a : evE T C false e σ h = some (v, h1)) : evS T C (.ret e) σ h = some (.rt v h1) := by
  unfold evS
  rw [a]
theorem sexp {e : ME} {v : PV} (a : evE T C false e σ h = some (v, h1)) : evS T C (.ex e) σ h = some (.nx σ h1) := by
  unfold evS
  rw [a]
theorem eappend {o e : ME} {m : Nat} {v : PV} {xs xs0 : List PV} (a : evE T C false o σ h = some (.ref m, h1)) (t : h1.get m = some (.lst xs0)) (b : evE T C false e σ h1 = some (v, h2)) (g : h2.get m = some (.lst xs)) (hl : xs.length < big) : evE T C false (.bm 10 o [e]) σ h = some (.non, h2.put m (.lst (xs ++ [v]))) := by
  unfold evE
  rw [a]
  have ty : tyB 10 (.ref m) h1 = true := by simp [tyB, t]
  simp only [ty, if_true]
  rw [esc b esn]
  simp [bmn, g, hl, finV]
end
end Mp
namespace K71
open PySem PySem.Spec L2 Mp
def me (a t b u k w : Int) : Me := ⟨(w.fdiv 18).fmod 3, k, if fl w = true then ⟨b, u, (w.fdiv 3).fmod 3, w.fdiv 2⟩ else ⟨a, t, w.fmod 3, w - 400⟩, if fl w = true then ⟨a, t, w.fmod 3, w - 400⟩ else ⟨b, u, (w.fdiv 3).fmod 3, w.fdiv 2⟩⟩
theorem mt_pv (a t b u k w : Int) : mt a t b u k w = (me a t b u k w).pv := by
  unfold mt me Me.pv Pa.pv pA pB
  by_cases e : fl w = true
  · rw [if_pos e, if_pos e, if_pos e]
  · rw [if_neg e, if_neg e, if_neg e]
theorem me_lk (a t b u k w : Int) : Lk (me a t b u k w) a t b u := by
  unfold me Lk
  by_cases e : fl w = true
  · rw [if_pos e, if_pos e]
    exact .inr ⟨rfl, rfl, rfl, rfl⟩
  · rw [if_neg e, if_neg e]
    exact .inl ⟨rfl, rfl, rfl, rfl⟩
theorem me_k (a t b u k w : Int) : (me a t b u k w).k = k := rfl
theorem s10g (n : Nat) (a t b u k w : Int) (h : MH) : ∃ h', callF T (n + 1) 10 [.tup [.int a, .int t], .tup [.int b, .int u], .int k, .int w] h = some (.ok (me a t b u k w).pv h') ∧ Grow [] h h' := by
  obtain ⟨h', q1, q2, q3⟩ := s10 n a t b u k w h
  rw [mt_pv] at q1
  exact ⟨h', q1, q2, fun m hm _ => q3 m hm⟩
/-- the row's numbers -/
def wOf (row : List PV) (i : Nat) : Int := match row[i]? with
  | some (.int z) => z
  | _ => 0
theorem row_at {row : List PV} (hs : Small row) {i : Nat} (hi : i < row.length) : atI row (i : Int) = some (.int (wOf row i)) := by
  obtain ⟨z, e, _⟩ := getSmall hs hi
  unfold atI ixN wOf
  rw [if_pos (by omega), if_pos (by omega)]
  show row[(i : Int).toNat]? = _
  rw [Int.toNat_natCast, e]
theorem ms_at {ms : List Int} {i : Nat} (hi : i < ms.length) : atI (ms.map PV.int) (i : Int) = some (.int (ms.getD i 0)) := by
  unfold atI ixN
  rw [if_pos (by omega), if_pos (by rw [List.length_map]; omega)]
  show (ms.map PV.int)[(i : Int).toNat]? = _
  rw [Int.toNat_natCast, List.getElem?_map, List.getElem?_eq_getElem hi, List.getD_eq_getElem?_getD, List.getElem?_eq_getElem hi]
  rfl
def uO (ring : Bool) (n k : Nat) : Int := if ring = true then 1 else if ((k + 1) % n) + 1 < n then 1 else 0
/-- the meetings -/
def mE (ring : Bool) (ms : List Int) (row : List PV) (k : Nat) : Me := me (ms.getD k 0) 0 (ms.getD ((k + 1) % ms.length) 0) (uO ring ms.length k) k (wOf row (8 + k))
theorem fn8 : T.fns[8]? = some f8 := rfl
def body8 : List MS := [
      .asg (.nm 6) (.bin 4 (.bf 2 [(.bin 0 (.loc 5) (.cst (.int 1)))]) (.loc 3)), 
      .asg (.nm 7) (.bf 2 [(.orE (.loc 2) (.cmp 2 (.loc 6) (.bin 1 (.loc 3) (.cst (.int 1)))))]), 
      .ex (.bm 10 (.loc 4) [(.call 10 [(.tup [(.sub (.loc 0) (.loc 5)), (.cst (.int 0))]), (.tup [(.sub (.loc 0) (.loc 6)), (.loc 7)]), (.loc 5), (.sub (.loc 1) (.bin 0 (.cst (.int 8)) (.loc 5)))])])]
theorem turn8 (n : Nat) (V A D : Nat) (ring : Bool) (ms : List Int) (row : List PV) (i : Nat) (o6 o7 : Option PV) (h0 h : MH) (acc : List Me) (hms : h.get V = some (.lst (ms.map .int))) (hrow : h.get A = some (.lst row)) (hs : Small row) (hrl : row.length = 16) (hD : h.get D = some (.lst (acc.map Me.pv))) (ha : acc.length < 100) (hl : 3 ≤ ms.length) (hl6 : ms.length ≤ 6) (hi : i < ms.length) (gw : Grow [] h0 h) (hD0 : h0.nx ≤ D) (hDl : D < h.nx) :
    ∃ h', evSs T (callF T (n + 1)) body8 [some (.ref V), some (.ref A), some (.bl ring), some (.int ms.length), some (.ref D), some (.int i), o6, o7] h = some (.nx [some (.ref V), some (.ref A), some (.bl ring), some (.int ms.length), some (.ref D), some (.int i), some (.int ((i + 1) % ms.length : Nat)), some (.int (uO ring ms.length i))] h') ∧ Grow [] h0 h' ∧ h'.get D = some (.lst ((acc ++ [mE ring ms row i]).map Me.pv)) ∧ D < h'.nx := by
  have lt : (i + 1) % ms.length < ms.length := Nat.mod_lt _ (by omega)
  obtain ⟨h1, q1, q2⟩ := s10g n (ms.getD i 0) 0 (ms.getD ((i + 1) % ms.length) 0) (uO ring ms.length i) i (wOf row (8 + i)) h
  have fm : Int.fmod ((i : Int) + 1) (ms.length : Nat) = ((i + 1) % ms.length : Nat) := by
    rw [Int.fmod_eq_emod_of_nonneg _ (by omega)]
    rfl
  have ne : ms ≠ [] := fun e => by rw [e] at hl; exact absurd hl (by decide)
  have st1 : evS T (callF T (n + 1)) (.asg (.nm 6) (.bin 4 (.bf 2 [(.bin 0 (.loc 5) (.cst (.int 1)))]) (.loc 3))) [some (.ref V), some (.ref A), some (.bl ring), some (.int ms.length), some (.ref D), some (.int i), o6, o7] h = some (.nx [some (.ref V), some (.ref A), some (.bl ring), some (.int ms.length), some (.ref D), some (.int i), some (.int ((i + 1) % ms.length : Nat)), o7] h) := by
    simp [evS, evE, evEs, evG, finV, bfn, binV, fm, ne]
  have st2 : evS T (callF T (n + 1)) (.asg (.nm 7) (.bf 2 [(.orE (.loc 2) (.cmp 2 (.loc 6) (.bin 1 (.loc 3) (.cst (.int 1)))))])) [some (.ref V), some (.ref A), some (.bl ring), some (.int ms.length), some (.ref D), some (.int i), some (.int ((i + 1) % ms.length : Nat)), o7] h = some (.nx [some (.ref V), some (.ref A), some (.bl ring), some (.int ms.length), some (.ref D), some (.int i), some (.int ((i + 1) % ms.length : Nat)), some (.int (uO ring ms.length i))] h) := by
    have e : evE T (callF T (n + 1)) false (.bf 2 [(.orE (.loc 2) (.cmp 2 (.loc 6) (.bin 1 (.loc 3) (.cst (.int 1)))))]) [some (.ref V), some (.ref A), some (.bl ring), some (.int ms.length), some (.ref D), some (.int i), some (.int ((i + 1) % ms.length : Nat)), o7] h = some (.int (uO ring ms.length i), h) := by
      cases ring with
      | true => simp [evE, evEs, finV, bfn, uO]
      | false =>
        have hu : uO false ms.length i = if ((i + 1) % ms.length) + 1 < ms.length then 1 else 0 := rfl
        rw [hu]
        generalize (i + 1) % ms.length = c at lt
        have hc : cmpR 2 (.int c) (.int ((ms.length : Int) - 1)) h = some (decide (c + 1 < ms.length)) := by
          show some (decide ((c : Int) < (ms.length : Int) - 1)) = _
          congr 2
          refine propext ⟨fun _ => by omega, fun _ => by omega⟩
        by_cases q : c + 1 < ms.length
        · simp [evE, evEs, finV, bfn, binV, hc, q]
        · simp [evE, evEs, finV, bfn, binV, hc, q]
    unfold evS
    rw [e]
    simp [evG]
  have e3 : evE T (callF T (n + 1)) false (.call 10 [(.tup [(.sub (.loc 0) (.loc 5)), (.cst (.int 0))]), (.tup [(.sub (.loc 0) (.loc 6)), (.loc 7)]), (.loc 5), (.sub (.loc 1) (.bin 0 (.cst (.int 8)) (.loc 5)))]) [some (.ref V), some (.ref A), some (.bl ring), some (.int ms.length), some (.ref D), some (.int i), some (.int ((i + 1) % ms.length : Nat)), some (.int (uO ring ms.length i))] h = some ((mE ring ms row i).pv, h1) := by
    have a1 := ms_at (ms := ms) (i := i) hi
    have a2 := ms_at (ms := ms) (i := (i + 1) % ms.length) lt
    have a3 : atI row (8 + (i : Int)) = some (.int (wOf row (8 + i))) := by
      have := row_at hs (i := 8 + i) (by omega)
      rw [← this]
      rfl
    have b1 : subV (.ref V) (.int i) h = some (.int (ms.getD i 0)) := by
      show (match h.get V with | some (.lst xs) => atV xs (.int i) | _ => none) = _
      rw [hms]
      exact a1
    have b2 : subV (.ref V) (.int ((i + 1) % ms.length : Nat)) h = some (.int (ms.getD ((i + 1) % ms.length) 0)) := by
      show (match h.get V with | some (.lst xs) => atV xs (.int ((i + 1) % ms.length : Nat)) | _ => none) = _
      rw [hms]
      exact a2
    have b3 : subV (.ref A) (.int (8 + i)) h = some (.int (wOf row (8 + i))) := by
      show (match h.get A with | some (.lst xs) => atV xs (.int (8 + i)) | _ => none) = _
      rw [hrow]
      exact a3
    have b4 : binV 0 (.int 8) (.int i) h = some (.int (8 + i), h) := rfl
    have c1 : evE T (callF T (n + 1)) false (.tup [(.sub (.loc 0) (.loc 5)), (.cst (.int 0))]) [some (.ref V), some (.ref A), some (.bl ring), some (.int ms.length), some (.ref D), some (.int i), some (.int ((i + 1) % ms.length : Nat)), some (.int (uO ring ms.length i))] h = some (.tup [.int (ms.getD i 0), .int 0], h) := by
      simp [evE, evEs, finV, b1]
    have c2 : evE T (callF T (n + 1)) false (.tup [(.sub (.loc 0) (.loc 6)), (.loc 7)]) [some (.ref V), some (.ref A), some (.bl ring), some (.int ms.length), some (.ref D), some (.int i), some (.int ((i + 1) % ms.length : Nat)), some (.int (uO ring ms.length i))] h = some (.tup [.int (ms.getD ((i + 1) % ms.length) 0), .int (uO ring ms.length i)], h) := by
      generalize (i + 1) % ms.length = c at b2 ⊢
      simp [evE, evEs, finV, b2]
    have c3 : evE T (callF T (n + 1)) false (.sub (.loc 1) (.bin 0 (.cst (.int 8)) (.loc 5))) [some (.ref V), some (.ref A), some (.bl ring), some (.int ms.length), some (.ref D), some (.int i), some (.int ((i + 1) % ms.length : Nat)), some (.int (uO ring ms.length i))] h = some (.int (wOf row (8 + i)), h) := by
      simp [evE, evEs, finV, b4, b3]
    have c4 : evE T (callF T (n + 1)) false (.loc 5) [some (.ref V), some (.ref A), some (.bl ring), some (.int ms.length), some (.ref D), some (.int i), some (.int ((i + 1) % ms.length : Nat)), some (.int (uO ring ms.length i))] h = some (.int i, h) := by
      simp [evE, finV]
    exact ecall (esc c1 (esc c2 (esc c4 (esc c3 esn)))) q1
  have st3 : evS T (callF T (n + 1)) (.ex (.bm 10 (.loc 4) [(.call 10 [(.tup [(.sub (.loc 0) (.loc 5)), (.cst (.int 0))]), (.tup [(.sub (.loc 0) (.loc 6)), (.loc 7)]), (.loc 5), (.sub (.loc 1) (.bin 0 (.cst (.int 8)) (.loc 5)))])])) [some (.ref V), some (.ref A), some (.bl ring), some (.int ms.length), some (.ref D), some (.int i), some (.int ((i + 1) % ms.length : Nat)), some (.int (uO ring ms.length i))] h = some (.nx [some (.ref V), some (.ref A), some (.bl ring), some (.int ms.length), some (.ref D), some (.int i), some (.int ((i + 1) % ms.length : Nat)), some (.int (uO ring ms.length i))] (h1.put D (.lst ((acc ++ [mE ring ms row i]).map Me.pv)))) := by
    have d1 : h1.get D = some (.lst (acc.map Me.pv)) := (q2.2 D hDl (by simp)).trans hD
    have d2 : acc.length < big := by unfold big; omega
    have e4 : evE T (callF T (n + 1)) false (.loc 4) [some (.ref V), some (.ref A), some (.bl ring), some (.int ms.length), some (.ref D), some (.int i), some (.int ((i + 1) % ms.length : Nat)), some (.int (uO ring ms.length i))] h = some (.ref D, h) := by
      simp [evE, finV]
    have := sexp (eappend e4 hD e3 d1 (by rw [List.length_map]; exact d2))
    rw [List.map_append]
    exact this
  exact ⟨_, ssc st1 (ssc st2 (ssc st3 ssn)), (gw.trans q2).put hD0, MH.put_same, Nat.lt_of_lt_of_le hDl q2.1⟩
end K71
namespace K71
open PySem PySem.Spec L2 Mp
theorem links_ring {n : Nat} (ms : List Int) (row : List PV) (hl : ms.length = n) : Links n n (fun j => ms.getD j 0) (fun k => (k + 1) % n) (fun _ => 1) (mE true ms row) := by
  subst hl
  exact ⟨fun k hk => me_lk _ _ _ _ _ _, fun k hk => rfl⟩
theorem links_chain {n : Nat} (ms : List Int) (row : List PV) (hl : ms.length = n) (h3 : 3 ≤ n) : CL n (fun j => ms.getD j 0) (mE false ms row) := by
  subst hl
  refine ⟨fun k hk => ?_, fun k hk => rfl⟩
  have e : (k + 1) % ms.length = k + 1 := Nat.mod_eq_of_lt (by omega)
  have := me_lk (ms.getD k 0) 0 (ms.getD ((k + 1) % ms.length) 0) (uO false ms.length k) k (wOf row (8 + k))
  have eu : uO false ms.length k = uC ms.length k := by
    unfold uO uC
    rw [if_neg (by decide), e]
    by_cases q : k + 1 + 1 < ms.length
    · rw [if_pos q, if_pos (by omega)]
    · rw [if_neg q, if_neg (by omega)]
  show Lk (me _ _ _ _ _ _) _ _ _ _
  rw [e, eu] at this ⊢
  exact this
def nO (ring : Bool) (n : Nat) : Nat := if ring = true then n else n - 1
theorem msP_succ (i : Nat) (M : Nat → Me) : msP (i + 1) M = msP i M ++ [M i] := by
  unfold msP
  rw [List.range_succ, List.map_append]
  rfl
theorem msP_len (i : Nat) (M : Nat → Me) : (msP i M).length = i := by simp [msP]
theorem s8 (n : Nat) (V A : Nat) (ring : Bool) (ms : List Int) (row : List PV) (h : MH) (hms : h.get V = some (.lst (ms.map .int))) (hrow : h.get A = some (.lst row)) (hs : Small row) (hrl : row.length = 16) (hl : 3 ≤ ms.length) (hl6 : ms.length ≤ 6) (hV : V < h.nx) (hA : A < h.nx) :
    ∃ v h', callF T (n + 2) 8 [.ref V, .ref A, .bl ring] h = some (.ok (.ref v) h') ∧ Grow [] h h' ∧ h'.get v = some (.lst ((msP (nO ring ms.length) (mE ring ms row)).map Me.pv)) ∧ v < h'.nx := by
  have hN : nO ring ms.length ≤ ms.length := by unfold nO; split <;> omega
  have st1 : evS T (callF T (n + 1)) (.asg (.nm 3) (.bf 0 [(.loc 0)])) [some (.ref V), some (.ref A), some (.bl ring), none, none, none, none, none] h = some (.nx [some (.ref V), some (.ref A), some (.bl ring), some (.int ms.length), none, none, none, none] h) := by
    simp [evS, evE, evEs, evG, finV, bfn, hms]
  have st2 : evS T (callF T (n + 1)) (.asg (.nm 4) (.lst [])) [some (.ref V), some (.ref A), some (.bl ring), some (.int ms.length), none, none, none, none] h = some (.nx [some (.ref V), some (.ref A), some (.bl ring), some (.int ms.length), some (.ref h.nx), none, none, none] (h.new (.lst []))) := by
    simp [evS, evE, evEs, evG]
  obtain ⟨σ', h', z1, ⟨o5, o6, o7, z2⟩, z3, z4, z5⟩ := foL_run (g := evG T (callF T (n + 1)) (.nm 5)) (b := evSs T (callF T (n + 1)) body8) (r := .rng 0 (nO ring ms.length)) (n := nO ring ms.length)
    (fun i σ hh => (∃ o5 o6 o7, σ = [some (.ref V), some (.ref A), some (.bl ring), some (.int ms.length), some (.ref h.nx), o5, o6, o7]) ∧ Grow [] h hh ∧ hh.get h.nx = some (.lst ((msP i (mE ring ms row)).map Me.pv)) ∧ h.nx < hh.nx)
    (fun i σ hh hi hp => by
      obtain ⟨⟨o5, o6, o7, rfl⟩, p1, p2, p3⟩ := hp
      obtain ⟨h2, q1, q2, q3, q4⟩ := turn8 n V A h.nx ring ms row i o6 o7 h hh (msP i (mE ring ms row)) ((p1.2 V hV (by simp)).trans hms) ((p1.2 A hA (by simp)).trans hrow) hs hrl p2 (by rw [msP_len]; omega) hl hl6 (by omega) p1 (Nat.le_refl _) p3
      refine ⟨.int (0 + (i : Nat)), [some (.ref V), some (.ref A), some (.bl ring), some (.int ms.length), some (.ref h.nx), some (.int i), o6, o7], hh, _, h2, ?_, ?_, q1, ⟨_, _, _, rfl⟩, q2, ?_, q4⟩
      · simp [IT.at, hi]
      · simp [evG]
      · rw [msP_succ]; exact q3)
    (fun σ hh hp => by simp [IT.at, endL, IT.len])
    (nO ring ms.length) 0 LF [some (.ref V), some (.ref A), some (.bl ring), some (.int ms.length), some (.ref h.nx), none, none, none] (h.new (.lst [])) (by omega) (by unfold LF; omega) ⟨⟨_, _, _, rfl⟩, (Grow.refl [] h).new, MH.new_same, Nat.lt_succ_self _⟩
  subst z2
  have e4 : evI T (callF T (n + 1)) (.rg1 (.bin 1 (.loc 3) (.bf 2 [(.not (.loc 2))]))) [some (.ref V), some (.ref A), some (.bl ring), some (.int ms.length), some (.ref h.nx), none, none, none] (h.new (.lst [])) = some (.rng 0 (nO ring ms.length), h.new (.lst [])) := by
    cases ring with
    | true =>
      have b3 : (ms.length : Int) < 4611686018427387904 := by omega
      have b4 : (-4611686018427387904 : Int) ≤ ms.length := by omega
      simp [evI, evE, evEs, finV, bfn, binV, nO, b3, b4]
    | false =>
      have b3 : (ms.length : Int) - 1 < 4611686018427387904 := by omega
      have b4 : (-4611686018427387904 : Int) ≤ (ms.length : Int) - 1 := by omega
      have b5 : ((ms.length : Int) - 1).toNat = ms.length - 1 := by omega
      simp [evI, evE, evEs, finV, bfn, binV, nO, b3, b4, b5]
  refine ⟨h.nx, h', callw [some (.ref V), some (.ref A), some (.bl ring), none, none, none, none, none] fn8 rfl rfl (ssc st1 (ssc st2 (ssc (forc e4 z1) (ssr (v := .ref h.nx) (h1 := h') ?_)))) rfl, z3, z4, z5⟩
  simp [evS, evE, finV]
/-! ### empty logs -/
theorem empties (C : Orc) (g : PV → Ev → MH → Option (Ev × MH)) (own : List Nat) (σ : Ev) (n : Nat) (hn : n ≤ 6) (h : MH) (hg : ∀ x hh, ∃ σ2, g x (wipeM own σ) hh = some (σ2, hh)) :
    ∃ h', cpL g (evTs T C []) own (.rng 0 n) h.nx σ (evE T C false (.lst [])) LF 0 (h.new (.lst [])) = some h' ∧ Grow [] h h' ∧ Lg h' h.nx n (fun _ => []) (List.range' (h.nx + 1) n) := by
  obtain ⟨h', z1, z2, z3, z4, z5⟩ := cpL_run (g := g) (ts := evTs T C []) (own := own) (r := .rng 0 n) (D := h.nx) (σ := σ) (ee := evE T C false (.lst [])) (n := n)
    (fun i hh => hh.get h.nx = some (.lst ((List.range' (h.nx + 1) i).map .ref)) ∧ hh.nx = h.nx + 1 + i ∧ (∀ j, j < i → hh.get (h.nx + 1 + j) = some (.lst [])) ∧ Grow [] h hh)
    (fun i hh hi hp => by
      obtain ⟨p1, p2, p3, p4⟩ := hp
      obtain ⟨σ2, q1⟩ := hg (.int (0 + (i : Nat))) hh
      refine ⟨.int (0 + (i : Nat)), σ2, hh, hh, ?_, q1, .inr ⟨.ref hh.nx, hh.new (.lst []), _, by simp [evTs], by simp [evE, evEs], (MH.new_ne (by omega)).trans p1, ?_, MH.put_same.trans ?_, ?_, fun j hj => ?_, p4.new.put (Nat.le_refl _)⟩⟩
      · simp [IT.at, hi]
      · rw [List.length_map, List.length_range']; unfold big; omega
      · rw [List.range'_1_concat, List.map_append, p2]; rfl
      · show hh.nx + 1 = _; omega
      · refine (MH.put_ne (by omega)).trans ?_
        by_cases e : j = i
        · subst e
          rw [← p2]
          exact MH.new_same
        · exact (MH.new_ne (by omega)).trans (p3 j (by omega)))
    (fun hh hp => by simp [IT.at, endL, IT.len])
    n 0 LF (h.new (.lst [])) (by omega) (by unfold LF; omega) ⟨MH.new_same, rfl, fun j hj => by omega, (Grow.refl [] h).new⟩
  refine ⟨h', z1, z5, by simp, z2, by omega, ?_, List.nodup_range', fun i r hr => ?_⟩
  · intro z
    have := List.mem_range'.mp z
    omega
  · have hi : i < n := by
      have := (List.getElem?_eq_some_iff.mp hr).1
      simpa using this
    have e : r = h.nx + 1 + i := by
      rw [List.getElem?_range' hi] at hr
      simpa using hr.symm
    subst e
    exact ⟨by omega, z4 i hi⟩
end K71
namespace K71
open PySem PySem.Spec L2 Mp
def hitz (i τ : Int) (m : Me) (z : Pa) : List Me := if z.a = i ∧ z.t = τ then [m] else []
theorem hit_len (i τ : Int) (m : Me) : (hit i τ m).length ≤ 2 := by
  unfold hit
  split <;> split <;> simp
theorem hits_len (i τ : Int) : ∀ l : List Me, (l.flatMap (hit i τ)).length ≤ 2 * l.length
  | [] => Nat.le_refl _
  | m :: r => by
    have h1 := hit_len i τ m
    have h2 := hits_len i τ r
    rw [List.flatMap_cons, List.length_append, List.length_cons]
    omega
def i7 : List MS := [.ifs (.cmp 0 (.sub (.loc 6) (.cst (.int 1))) (.loc 3)) [
            .ex (.bm 10 (.sub (.loc 2) (.sub (.loc 6) (.cst (.int 0)))) [(.loc 4)])] []]
theorem part7 (C : Orc) {h0 hh : MH} {L n : Nat} {lg : Nat → List Me} {rs : List Nat} (g : Lg hh L n lg rs) (gw : Grow [] h0 hh) (hrs : ∀ r ∈ rs, h0.nx ≤ r) (m : Me) (z : Pa) (τ : Int) (h1 : 0 ≤ z.a) (h2 : z.a < n) (hl : ∀ i, i < n → (lg i).length < 1000) (o0 o1 o5 : Option PV) :
    ∃ h', evSs T C i7 [o0, o1, some (.ref L), some (.int τ), some m.pv, o5, some z.pv] hh = some (.nx [o0, o1, some (.ref L), some (.int τ), some m.pv, o5, some z.pv] h') ∧ Lg h' L n (fun i => lg i ++ hitz i τ m z) rs ∧ Grow [] h0 h' := by
  have c1 : evE T C true (.cmp 0 (.sub (.loc 6) (.cst (.int 1))) (.loc 3)) [o0, o1, some (.ref L), some (.int τ), some m.pv, o5, some z.pv] hh = some (.bl (z.t == τ), hh) := by
    simp [evE, finV, Pa.pv, subV, atV, atI, ixN, cmpR, cmp0_int]
  by_cases e : z.t = τ
  · obtain ⟨r, hr, rlt, hg⟩ := g.get (i := z.a.toNat) (by omega)
    have e1 := atR g.len h1 h2 hr
    have c2 : evE T C false (.sub (.loc 2) (.sub (.loc 6) (.cst (.int 0)))) [o0, o1, some (.ref L), some (.int τ), some m.pv, o5, some z.pv] hh = some (.ref r, hh) := by
      have a0 : atI [PV.int z.a, .int z.t, .int z.p, .int z.q] 0 = some (PV.int z.a) := rfl
      simp [evE, finV, Pa.pv, subV, atV, a0, g.top, e1]
    have c3 : evE T C false (.loc 4) [o0, o1, some (.ref L), some (.int τ), some m.pv, o5, some z.pv] hh = some (m.pv, hh) := by
      simp [evE, finV]
    have l1 : ((lg z.a.toNat).map Me.pv).length < big := by
      rw [List.length_map]
      have := hl z.a.toNat (by omega)
      unfold big
      omega
    have c4 := sexp (eappend c2 hg c3 hg l1)
    have em : (lg z.a.toNat).map Me.pv ++ [m.pv] = (lg z.a.toNat ++ [m]).map Me.pv := by rw [List.map_append]; rfl
    rw [em] at c4
    refine ⟨hh.put r (.lst ((lg z.a.toNat ++ [m]).map Me.pv)), ssc ?_ ssn, (g.write hr _).congr fun i hi => ?_, gw.put (hrs r (List.mem_of_getElem? hr))⟩
    · unfold evS
      rw [c1, e]
      simp only [beq_self_eq_true]
      exact ssc c4 ssn
    · unfold hitz
      by_cases q : i = z.a.toNat
      · subst q
        rw [if_pos rfl, if_pos ⟨by omega, e⟩]
      · rw [if_neg q, if_neg (by omega), List.append_nil]
  · have e' : (z.t == τ) = false := beq_eq_false_iff_ne.mpr e
    refine ⟨hh, ssc ?_ ssn, g.congr fun i hi => ?_, gw⟩
    · unfold evS
      rw [c1, e']
      simp only
      exact ssn
    · unfold hitz
      rw [if_neg fun q => e q.2, List.append_nil]
def m7 : List MS := [.for (.nm 6) (.ex (.sub (.loc 4) (.cst (.int 1)))) i7]
theorem meet7 (C : Orc) {h0 hh : MH} {L n : Nat} {lg : Nat → List Me} {rs : List Nat} (g : Lg hh L n lg rs) (gw : Grow [] h0 hh) (hrs : ∀ r ∈ rs, h0.nx ≤ r) (m : Me) (τ : Int) (hx : 0 ≤ m.x.a ∧ m.x.a < n) (hy : 0 ≤ m.y.a ∧ m.y.a < n) (hl : ∀ i, i < n → (lg i).length < 900) (o0 o1 o5 o6 : Option PV) :
    ∃ o6' h', evSs T C m7 [o0, o1, some (.ref L), some (.int τ), some m.pv, o5, o6] hh = some (.nx [o0, o1, some (.ref L), some (.int τ), some m.pv, o5, o6'] h') ∧ Lg h' L n (fun i => lg i ++ hit i τ m) rs ∧ Grow [] h0 h' := by
  obtain ⟨h1, a1, a2, a3⟩ := part7 C g gw hrs m m.x τ hx.1 hx.2 (fun i hi => by have := hl i hi; omega) o0 o1 o5
  obtain ⟨h2, b1, b2, b3⟩ := part7 C a2 a3 hrs m m.y τ hy.1 hy.2 (fun i hi => by
    have := hl i hi
    have : (hitz i τ m m.x).length ≤ 1 := by unfold hitz; split <;> simp
    rw [List.length_append]; omega) o0 o1 o5
  refine ⟨some m.y.pv, h2, ssc (forc (r := .tup [m.x.pv, m.y.pv]) (h1 := hh) ?_ ?_) ssn, b2.congr fun i hi => ?_, b3⟩
  · simp [evI, evE, finV, Me.pv, subV, atV, atI, ixN]
  · rw [LF3]
    have f1 : foL (evG T C (.nm 6)) (evSs T C i7) (.tup [m.x.pv, m.y.pv]) (3997 + 1) 2 [o0, o1, some (.ref L), some (.int τ), some m.pv, o5, some m.y.pv] h2 = some (.nx [o0, o1, some (.ref L), some (.int τ), some m.pv, o5, some m.y.pv] h2) := by
      simp [foL, IT.at, endL, IT.len]
    have f2 : foL (evG T C (.nm 6)) (evSs T C i7) (.tup [m.x.pv, m.y.pv]) (3997 + 1 + 1) 1 [o0, o1, some (.ref L), some (.int τ), some m.pv, o5, some m.x.pv] h1 = some (.nx [o0, o1, some (.ref L), some (.int τ), some m.pv, o5, some m.y.pv] h2) := by
      unfold foL
      simp only [IT.at, List.getElem?_cons_succ, List.getElem?_cons_zero, evG, List.set_cons_succ, List.set_cons_zero, b1]
      exact f1
    unfold foL
    simp only [IT.at, List.getElem?_cons_succ, List.getElem?_cons_zero, evG, List.set_cons_succ, List.set_cons_zero, a1]
    exact f2
  · rw [List.append_assoc]
    rfl
def t7 : List MS := [.for (.nm 4) (.ex (.loc 0)) m7]
theorem turn7 (C : Orc) {h0 hh : MH} {L n V : Nat} {lg : Nat → List Me} {rs : List Nat} (ms : List Me) (hV : h0.get V = some (.lst (ms.map Me.pv))) (hVl : V < h0.nx) (hm : ms.length ≤ 6) (g : Lg hh L n lg rs) (gw : Grow [] h0 hh) (hrs : ∀ r ∈ rs, h0.nx ≤ r) (τ : Int) (hb : ∀ m ∈ ms, (0 ≤ m.x.a ∧ m.x.a < n) ∧ (0 ≤ m.y.a ∧ m.y.a < n)) (hl : ∀ i, i < n → (lg i).length < 800) (o1 o4 o5 o6 : Option PV) :
    ∃ o4' o6' h', evSs T C t7 [some (.ref V), o1, some (.ref L), some (.int τ), o4, o5, o6] hh = some (.nx [some (.ref V), o1, some (.ref L), some (.int τ), o4', o5, o6'] h') ∧ Lg h' L n (fun i => lg i ++ ms.flatMap (hit i τ)) rs ∧ Grow [] h0 h' := by
  obtain ⟨σ', h', z1, ⟨o4', o6', z2⟩, z3, z4⟩ := foL_run (g := evG T C (.nm 4)) (b := evSs T C m7) (r := .live V) (n := ms.length)
    (fun j σ hh => (∃ o4 o6, σ = [some (.ref V), o1, some (.ref L), some (.int τ), o4, o5, o6]) ∧ Lg hh L n (fun i => lg i ++ (ms.take j).flatMap (hit i τ)) rs ∧ Grow [] h0 hh)
    (fun j σ hh hj hp => by
      obtain ⟨⟨o4, o6, rfl⟩, p1, p2⟩ := hp
      obtain ⟨hx, hy⟩ := hb ms[j] (List.getElem_mem hj)
      obtain ⟨o6', h', q1, q2, q3⟩ := meet7 C p1 p2 hrs ms[j] τ hx hy (fun i hi => by
        have := hl i hi
        have := hits_len i τ (ms.take j)
        rw [List.length_take] at this
        rw [List.length_append]; omega) (some (.ref V)) o1 o5 o6
      refine ⟨ms[j].pv, [some (.ref V), o1, some (.ref L), some (.int τ), some ms[j].pv, o5, o6], hh, _, h', ?_, ?_, q1, ⟨_, _, rfl⟩, q2.congr fun i hi => ?_, q3⟩
      · have e2 : hh.get V = some (.lst (ms.map Me.pv)) := (p2.2 V hVl (by simp)).trans hV
        simp [IT.at, e2, hj]
      · simp [evG]
      · rw [List.append_assoc, List.take_succ, List.getElem?_eq_getElem hj, List.flatMap_append]
        simp)
    (fun σ hh hp => by
      have e2 : hh.get V = some (.lst (ms.map Me.pv)) := (hp.2.2.2 V hVl (by simp)).trans hV
      simp [IT.at, endL, IT.len, e2])
    ms.length 0 LF [some (.ref V), o1, some (.ref L), some (.int τ), o4, o5, o6] hh (by omega) (by unfold LF; omega) ⟨⟨o4, o6, rfl⟩, g.congr fun i hi => by simp, gw⟩
  subst z2
  rw [List.take_length] at z3
  refine ⟨o4', o6', h', ssc (forc (r := .live V) (h1 := hh) ?_ z1) ssn, z3, z4⟩
  have e2 : hh.get V = some (.lst (ms.map Me.pv)) := (gw.2 V hVl (by simp)).trans hV
  simp [evI, evE, finV, e2]
theorem fn7 : T.fns[7]? = some f7 := rfl
theorem s7 (k : Nat) (V n : Nat) (hn : n ≤ 6) (ms : List Me) (h : MH) (hV : h.get V = some (.lst (ms.map Me.pv))) (hVl : V < h.nx) (hm : ms.length ≤ 6) (hb : ∀ m ∈ ms, (0 ≤ m.x.a ∧ m.x.a < n) ∧ (0 ≤ m.y.a ∧ m.y.a < n)) :
    ∃ L rs h', callF T (k + 1) 7 [.ref V, .int n] h = some (.ok (.ref L) h') ∧ Lg h' L n (lgP ms) rs ∧ Grow [] h h' ∧ h.nx ≤ L ∧ ∀ r ∈ rs, h.nx ≤ r := by
  obtain ⟨h1, a1, a2, a3⟩ := empties (callF T k) (evG T (callF T k) (.nm 5)) [5] [some (.ref V), some (.int n), none, none, none, none, none] n hn h (fun x hh => ⟨_, by unfold evG; rfl⟩)
  have e4 : evI T (callF T k) (.rg1 (.loc 1)) [some (.ref V), some (.int n), none, none, none, none, none] h = some (.rng 0 n, h) := by
    have b3 : (n : Int) < 4611686018427387904 := by omega
    have b4 : (-4611686018427387904 : Int) ≤ n := by omega
    simp [evI, evE, finV, b3, b4]
  have e5 : evE T (callF T k) false (.lcomp [5] (.lst []) (.nm 5) (.rg1 (.loc 1)) []) [some (.ref V), some (.int n), none, none, none, none, none] h = some (.ref h.nx, h1) := by
    unfold evE
    rw [e4]
    simp only
    rw [if_neg (by decide)]
    exact congrArg (fun z => match z with | some h2 => some (PV.ref h.nx, h2) | none => none) a1
  have hrs : ∀ r ∈ List.range' (h.nx + 1) n, h.nx ≤ r := fun r hr => by
    have := List.mem_range'.mp hr
    omega
  obtain ⟨o4, o6, h2, b1, b2, b3⟩ := turn7 (callF T k) ms hV hVl hm a3 a2 hrs 0 hb (fun i hi => by simp) (some (.int n)) none none none
  obtain ⟨o4', o6', h3, c1, c2, c3⟩ := turn7 (callF T k) ms hV hVl hm b2 b3 hrs 1 hb (fun i hi => by
    have := hits_len i 0 ms
    simp only [List.nil_append]
    omega) (some (.int n)) o4 none o6
  have st2 : evS T (callF T k) (.for (.nm 3) (.rg1 (.cst (.int 2))) t7) [some (.ref V), some (.int n), some (.ref h.nx), none, none, none, none] h1 = some (.nx [some (.ref V), some (.int n), some (.ref h.nx), some (.int 1), o4', none, o6'] h3) := by
    refine forc (r := .rng 0 2) (h1 := h1) (by simp [evI, evE]) ?_
    rw [LF3]
    have f1 : foL (evG T (callF T k) (.nm 3)) (evSs T (callF T k) t7) (.rng 0 2) (3997 + 1) 2 [some (.ref V), some (.int n), some (.ref h.nx), some (.int 1), o4', none, o6'] h3 = some (.nx [some (.ref V), some (.int n), some (.ref h.nx), some (.int 1), o4', none, o6'] h3) := by
      simp [foL, IT.at, endL, IT.len]
    have f2 : foL (evG T (callF T k) (.nm 3)) (evSs T (callF T k) t7) (.rng 0 2) (3997 + 1 + 1) 1 [some (.ref V), some (.int n), some (.ref h.nx), some (.int 0), o4, none, o6] h2 = some (.nx [some (.ref V), some (.int n), some (.ref h.nx), some (.int 1), o4', none, o6'] h3) := by
      unfold foL
      have : (IT.rng 0 2).at h2 1 = some (.int 1) := rfl
      rw [this]
      simp only [evG, List.set_cons_succ, List.set_cons_zero, c1]
      exact f1
    unfold foL
    have : (IT.rng 0 2).at h1 0 = some (.int 0) := rfl
    rw [this]
    simp only [evG, List.set_cons_succ, List.set_cons_zero, b1]
    exact f2
  refine ⟨h.nx, _, h3, callw [some (.ref V), some (.int n), none, none, none, none, none] fn7 rfl rfl (ssc (sasg e5) (ssc st2 (ssr (v := .ref h.nx) (h1 := h3) ?_))) rfl, c2.congr fun i hi => ?_, c3, Nat.le_refl _, hrs⟩
  · simp [evS, evE, finV]
  · unfold lgP
    rw [List.nil_append]
end K71
namespace Mp
open PySem PySem.Spec L2
section
variable {T : Tab} {C : Orc} {σ : Ev} {h h1 h2 : MH}
theorem eloc {i : Nat} {v : PV} (e : σ[i]? = some (some v)) : evE T C false (.loc i) σ h = some (v, h) := by
  unfold evE
  rw [e]
  rfl
theorem ecst {v : PV} : evE T C false (.cst v) σ h = some (v, h) := by
  unfold evE
  rfl
theorem etup {es : List ME} {vs : List PV} (a : evEs T C es σ h = some (vs, h1)) : evE T C false (.tup es) σ h = some (.tup vs, h1) := by
  unfold evE
  rw [a]
  rfl
theorem elst {es : List ME} {vs : List PV} (a : evEs T C es σ h = some (vs, h1)) : evE T C false (.lst es) σ h = some (.ref h1.nx, h1.new (.lst vs)) := by
  unfold evE
  rw [a]
  rfl
theorem esubL {a i : ME} {m : Nat} {k : Int} {xs : List PV} {v : PV} (ea : evE T C false a σ h = some (.ref m, h1)) (ei : evE T C false i σ h1 = some (.int k, h2)) (g : h2.get m = some (.lst xs)) (e : atI xs k = some v) : evE T C false (.sub a i) σ h = some (v, h2) := by
  unfold evE
  rw [ea]
  simp only [ei]
  have : subV (.ref m) (.int k) h2 = some v := by
    show (match h2.get m with | some (.lst xs) => atV xs (.int k) | _ => none) = _
    rw [g]
    exact e
  rw [this]
  rfl
theorem erev {a : ME} {m : Nat} {xs : List PV} (ea : evE T C false a σ h = some (.ref m, h1)) (g : h1.get m = some (.lst xs)) : evE T C false (.rev a) σ h = some (.ref h1.nx, h1.new (.lst xs.reverse)) := by
  unfold evE
  rw [ea]
  simp only [g]
  rfl
theorem ecmp {tm : Bool} {op : Nat} {a b : ME} {x y : PV} {r : Bool} (ea : evE T C false a σ h = some (x, h1)) (eb : evE T C false b σ h1 = some (y, h2)) (e : cmpV op x y h2 = some r) : evE T C tm (.cmp op a b) σ h = some (.bl r, h2) := by
  unfold evE
  rw [ea]
  simp only [eb]
  have : cmpR op x y h2 = some r := by
    unfold cmpR
    rw [e]
  rw [this]
theorem eorF {tm : Bool} {a b : ME} {r : Option (PV × MH)} (ea : evE T C tm a σ h = some (.bl false, h1)) (eb : evE T C tm b σ h1 = r) : evE T C tm (.orE a b) σ h = r := by
  unfold evE
  rw [ea]
  exact eb
theorem sifF {c : ME} {a : List MS} (ec : evE T C true c σ h = some (.bl false, h1)) : evS T C (.ifs c a []) σ h = some (.nx σ h1) := by
  unfold evS
  rw [ec]
  simp only
  unfold evSs
  rfl
end
end Mp
namespace K71
open PySem PySem.Spec L2 Mp
/-- a log is laid anew -/
theorem Lg.anew {h : MH} {L n : Nat} {lg : Nat → List Me} {rs : List Nat} (g : Lg h L n lg rs) {i : Nat} (hi : i < n) (hlt : ∀ r ∈ rs, r < h.nx) : Lg ((h.new (.lst [])).put L (.lst ((rs.set i h.nx).map .ref))) L n (fun j => if j = i then [] else lg j) (rs.set i h.nx) := by
  have hil : i < rs.length := by rw [g.len]; exact hi
  have hn : h.nx ∉ rs := fun z => absurd (hlt _ z) (by omega)
  have hl := g.lt
  refine ⟨by simp [g.len], MH.put_same, Nat.lt_succ_of_lt g.lt, fun z => ?_, ?_, fun j r z => ?_⟩
  · rcases List.mem_or_eq_of_mem_set z with e | e
    · exact g.ap e
    · omega
  · have nd := g.nd
    clear g hlt hi hl
    induction rs generalizing i with
    | nil => simp
    | cons a t ih =>
      have na := List.nodup_cons.mp nd
      cases i with
      | zero => exact List.nodup_cons.mpr ⟨fun z => hn (List.mem_cons_of_mem _ z), na.2⟩
      | succ i =>
        refine List.nodup_cons.mpr ⟨fun z => ?_, ih (by simpa using hil) (fun z => hn (List.mem_cons_of_mem _ z)) na.2⟩
        rcases List.mem_or_eq_of_mem_set z with e | e
        · exact na.1 e
        · exact hn (by rw [← e]; exact List.mem_cons_self ..)
  · by_cases e : j = i
    · subst e
      rw [List.getElem?_set_self hil] at z
      cases z
      rw [if_pos rfl]
      refine ⟨Nat.lt_succ_self _, (MH.put_ne (by omega)).trans MH.new_same⟩
    · rw [List.getElem?_set_ne (fun q => e q.symm)] at z
      obtain ⟨h1, h2⟩ := g.at' j r z
      rw [if_neg e]
      have hLr : r ≠ L := fun q => g.ap (by rw [← q]; exact List.mem_of_getElem? z)
      exact ⟨Nat.lt_succ_of_lt h1, (MH.put_ne hLr).trans ((MH.new_ne (Nat.ne_of_lt h1)).trans h2)⟩
theorem Lg.lts {h : MH} {L n : Nat} {lg : Nat → List Me} {rs : List Nat} (g : Lg h L n lg rs) : ∀ r ∈ rs, r < h.nx := fun r hr => by
  obtain ⟨i, hi, e⟩ := List.getElem_of_mem hr
  exact (g.at' i r (by rw [List.getElem?_eq_getElem hi, e])).1
/-- machines and row stand -/
structure Std (h : MH) (A V : Nat) (row : List PV) (ms : List Int) : Prop where
  a : h.get A = some (.lst row)
  v : h.get V = some (.lst (ms.map .int))
  la : A < h.nx
  lv : V < h.nx
theorem Std.grow {h h' : MH} {A V : Nat} {row : List PV} {ms : List Int} (s : Std h A V row ms) (g : Grow [] h h') : Std h' A V row ms :=
  ⟨(g.2 A s.la (by simp)).trans s.a, (g.2 V s.lv (by simp)).trans s.v, Nat.lt_of_lt_of_le s.la g.1, Nat.lt_of_lt_of_le s.lv g.1⟩
/-- a machine of the order, read -/
theorem emac {C : Orc} {σ : Ev} {h : MH} {A V : Nat} {row : List PV} {ms : List Int} (s : Std h A V row ms) (e : σ[2]? = some (some (.ref V))) (i : Nat) (hi : i < ms.length) : evE T C false (.sub (.loc 2) (.cst (.int i))) σ h = some (.int (ms.getD i 0), h) :=
  esubL (eloc e) ecst s.v (ms_at hi)
theorem erow {C : Orc} {σ : Ev} {h : MH} {A V : Nat} {row : List PV} {ms : List Int} (s : Std h A V row ms) (hs : Small row) (hrl : row.length = 16) (e : σ[1]? = some (some (.ref A))) (i : Nat) (hi : i < 16) : evE T C false (.sub (.loc 1) (.cst (.int i))) σ h = some (.int (wOf row i), h) :=
  esubL (eloc e) ecst s.a (row_at hs (by omega))
theorem bounds_ring {ms : List Int} {row : List PV} {n : Nat} (hl : ms.length = n) (O : Ord n fun j => ms.getD j 0) : ∀ m ∈ msP n (mE true ms row), (0 ≤ m.x.a ∧ m.x.a < n) ∧ (0 ≤ m.y.a ∧ m.y.a < n) := by
  intro m hm
  obtain ⟨k, hk, rfl⟩ := List.mem_map.mp hm
  have hk := List.mem_range.mp hk
  have h3 := O.ge
  have l := (links_ring ms row hl).lk k hk
  have hk' : (k + 1) % n < n := Nat.mod_lt _ (by omega)
  rcases l with ⟨e1, _, e2, _⟩ | ⟨e1, _, e2, _⟩ <;> rw [e1, e2]
  · exact ⟨⟨O.lo k hk, O.hi k hk⟩, ⟨O.lo _ hk', O.hi _ hk'⟩⟩
  · exact ⟨⟨O.lo _ hk', O.hi _ hk'⟩, ⟨O.lo k hk, O.hi k hk⟩⟩
theorem bounds_chain {ms : List Int} {row : List PV} {n : Nat} (hl : ms.length = n) (O : Ord n fun j => ms.getD j 0) : ∀ m ∈ msP (n - 1) (mE false ms row), (0 ≤ m.x.a ∧ m.x.a < n) ∧ (0 ≤ m.y.a ∧ m.y.a < n) := by
  intro m hm
  obtain ⟨k, hk, rfl⟩ := List.mem_map.mp hm
  have hk := List.mem_range.mp hk
  have h3 := O.ge
  have l := (links_chain ms row hl h3).lk k hk
  rcases l with ⟨e1, _, e2, _⟩ | ⟨e1, _, e2, _⟩ <;> rw [e1, e2]
  · exact ⟨⟨O.lo k (by omega), O.hi k (by omega)⟩, ⟨O.lo _ (by omega), O.hi _ (by omega)⟩⟩
  · exact ⟨⟨O.lo _ (by omega), O.hi _ (by omega)⟩, ⟨O.lo k (by omega), O.hi k (by omega)⟩⟩
end K71
namespace K71
open PySem PySem.Spec L2 Mp
theorem fn0 : T.fns[0]? = some f0 := rfl
/-- the rows of a join are compared to the chain turned round -/
theorem join_rev (C : Orc) (σ : Ev) (h h1 : MH) (v Vc : Nat) (l : List Me) (c1 : evE T C false (.call 9 [(.loc 6)]) σ h = some (.ref v, h1)) (g1 : h1.get v = some (.lst (l.reverse.map Me.pv))) (v1 : v < h1.nx) (e5 : σ[5]? = some (some (.ref Vc))) (gc : h1.get Vc = some (.lst (l.map Me.pv))) :
    evS T C (.ifs (.cmp 1 (.call 9 [(.loc 6)]) (.rev (.loc 5))) [.ret (.cst (.bl false))] []) σ h = some (.nx σ (h1.new (.lst (l.map Me.pv).reverse))) := by
  refine sifF (ecmp c1 (erev (eloc e5) gc) (cmp1_lists (l := l.reverse) ((MH.new_ne (Nat.ne_of_lt v1)).trans g1) (MH.new_same.trans ?_)))
  rw [List.map_reverse]
theorem law_cf (ns : List Int) : ∃ h', callF T 12 0 [.fz (ns.map .int)] h0M = some (.ok (.bl true) h') := by
  have q5 := s5 10 ns h0M
  obtain ⟨row, h1, a1, a2, a3, a4, a5, a6⟩ := s4 9 (ns.getD 0 0) h0M
  have ga : Grow [] h0M h1 := ⟨Nat.le_of_lt a5, fun k hk _ => a6 k hk⟩
  obtain ⟨N, ms, V, h2, b1, b2, b3, b4, b5, b6, b7, b8⟩ := s6 10 h0M.nx row h1 a2 a4 a3 a5
  have O := ord_of b5 b6 b7 b8
  have S2 : Std h2 h0M.nx V row ms := ⟨(b4.2 _ a5 (by simp)).trans a2, b2, Nat.lt_of_lt_of_le a5 b4.1, b3⟩
  generalize h0M.nx = A at *
  have hl3 : 3 ≤ ms.length := by omega
  have hl6 : ms.length ≤ 6 := by omega
  -- the row, the machines, how many
  have st1 : evS T (callF T 11) (.asg (.nm 1) (.call 4 [(.call 5 [(.loc 0), (.cst (.int 0))]), (.cst (.int 16))])) [some (.fz (ns.map .int)), none, none, none, none, none, none, none, none, none] h0M = some (.nx [some (.fz (ns.map .int)), some (.ref A), none, none, none, none, none, none, none, none] h1) :=
    sasg (ecall (esc (ecall (esc (eloc rfl) (esc ecst esn)) q5) (esc ecst esn)) a1)
  have st2 : evS T (callF T 11) (.asg (.nm 2) (.call 6 [(.loc 1)])) [some (.fz (ns.map .int)), some (.ref A), none, none, none, none, none, none, none, none] h1 = some (.nx [some (.fz (ns.map .int)), some (.ref A), some (.ref V), none, none, none, none, none, none, none] h2) :=
    sasg (ecall (esc (eloc rfl) esn) b1)
  have st3 : evS T (callF T 11) (.asg (.nm 3) (.bf 0 [(.loc 2)])) [some (.fz (ns.map .int)), some (.ref A), some (.ref V), none, none, none, none, none, none, none] h2 = some (.nx [some (.fz (ns.map .int)), some (.ref A), some (.ref V), some (.int N), none, none, none, none, none, none] h2) := by
    simp [evS, evE, evEs, evG, finV, bfn, b2, b7]
  -- the ring
  obtain ⟨v1, h3, c1, c2, c3, c4⟩ := s8 9 V A true ms row h2 S2.v S2.a a4 a3 hl3 hl6 S2.lv S2.la
  rw [b7] at c3
  have c3' : h3.get v1 = some (.lst ((msP N (mE true ms row)).map Me.pv)) := c3
  obtain ⟨L, rs, h4, d1, d2, d3, _, _⟩ := s7 10 v1 N b6 (msP N (mE true ms row)) h3 c3' c4 (by rw [msP_len]; omega) (bounds_ring b7 O)
  have okR := ring_ok O (links_ring ms row b7)
  have st4 : evS T (callF T 11) (.asg (.nm 4) (.call 7 [(.call 8 [(.loc 2), (.loc 1), (.cst (.bl true))]), (.loc 3)])) [some (.fz (ns.map .int)), some (.ref A), some (.ref V), some (.int N), none, none, none, none, none, none] h2 = some (.nx [some (.fz (ns.map .int)), some (.ref A), some (.ref V), some (.int N), some (.ref L), none, none, none, none, none] h4) :=
    sasg (ecall (esc (ecall (esc (eloc rfl) (esc (eloc rfl) (esc ecst esn))) c1) (esc (eloc rfl) esn)) d1)
  have S4 := (S2.grow c2).grow d3
  obtain ⟨h5, e1, e2⟩ := s9none 7 d2 okR b6 (fun F f => .inr (ring_drain O (links_ring ms row b7) (ring_fnd O (links_ring ms row b7) f)))
  have S5 := S4.grow e2
  obtain ⟨v2, h6, f1, f2, f3, f4⟩ := s8 9 V A true ms row h5 S5.v S5.a a4 a3 hl3 hl6 S5.lv S5.la
  rw [b7] at f3
  have f3' : h6.get v2 = some (.lst ((msP N (mE true ms row)).map Me.pv)) := f3
  obtain ⟨L', rs', h7, g1, g2, g3, _, _⟩ := s7 10 v2 N b6 (msP N (mE true ms row)) h6 f3' f4 (by rw [msP_len]; omega) (bounds_ring b7 O)
  have S7 := (S5.grow f2).grow g3
  have D7 := ((d2.grow e2).grow f2).grow g3
  have st5 : evS T (callF T 11) (.ifs (.orE (.cmp 9 (.call 9 [(.loc 4)]) (.cst .non)) (.cmp 1 (.loc 4) (.call 7 [(.call 8 [(.loc 2), (.loc 1), (.cst (.bl true))]), (.loc 3)]))) [
      .ret (.cst (.bl false))] []) [some (.fz (ns.map .int)), some (.ref A), some (.ref V), some (.int N), some (.ref L), none, none, none, none, none] h4 = some (.nx [some (.fz (ns.map .int)), some (.ref A), some (.ref V), some (.int N), some (.ref L), none, none, none, none, none] h7) :=
    sifF (eorF (ecmp (ecall (esc (eloc rfl) esn) e1) ecst rfl) (ecmp (eloc rfl) (ecall (esc (ecall (esc (eloc rfl) (esc (eloc rfl) (esc ecst esn))) f1) (esc (eloc rfl) esn)) g1) (cmp1_logs D7 g2)))
  -- the chain
  obtain ⟨Vc, h8, i1, i2, i3, i4⟩ := s8 9 V A false ms row h7 S7.v S7.a a4 a3 hl3 hl6 S7.lv S7.la
  rw [b7] at i3
  have i3' : h8.get Vc = some (.lst ((msP (N - 1) (mE false ms row)).map Me.pv)) := i3
  have S8 := S7.grow i2
  have st6 : evS T (callF T 11) (.asg (.nm 5) (.call 8 [(.loc 2), (.loc 1), (.cst (.bl false))])) [some (.fz (ns.map .int)), some (.ref A), some (.ref V), some (.int N), some (.ref L), none, none, none, none, none] h7 = some (.nx [some (.fz (ns.map .int)), some (.ref A), some (.ref V), some (.int N), some (.ref L), some (.ref Vc), none, none, none, none] h8) :=
    sasg (ecall (esc (eloc rfl) (esc (eloc rfl) (esc ecst esn))) i1)
  obtain ⟨Lc, rc, h9, j1, j2, j3, j4, j5⟩ := s7 10 Vc N b6 (msP (N - 1) (mE false ms row)) h8 i3' i4 (by rw [msP_len]; omega) (bounds_chain b7 O)
  have lc := links_chain ms row b7 b5
  have okC := chain_ok O lc
  have st7 : evS T (callF T 11) (.asg (.nm 6) (.call 7 [(.loc 5), (.loc 3)])) [some (.fz (ns.map .int)), some (.ref A), some (.ref V), some (.int N), some (.ref L), some (.ref Vc), none, none, none, none] h8 = some (.nx [some (.fz (ns.map .int)), some (.ref A), some (.ref V), some (.int N), some (.ref L), some (.ref Vc), some (.ref Lc), none, none, none] h9) :=
    sasg (ecall (esc (eloc rfl) (esc (eloc rfl) esn)) j1)
  have rl : (msP (N - 1) (mE false ms row)).reverse.length ≤ 12 := by rw [List.length_reverse, msP_len]; omega
  obtain ⟨v3, h10, k1, k2, k3, k4⟩ := s9some 7 j2 okC b6 (msP (N - 1) (mE false ms row)).reverse rl (fun F f => ⟨chain_taken O lc (chain_fnd O lc f), chain_drain O lc (N - 1) F (Nat.le_refl _) (chain_fnd O lc f)⟩)
  have G10 := j3.trans k2
  have st8 := join_rev (callF T 11) [some (.fz (ns.map .int)), some (.ref A), some (.ref V), some (.int N), some (.ref L), some (.ref Vc), some (.ref Lc), none, none, none] h9 h10 v3 Vc (msP (N - 1) (mE false ms row)) (ecall (esc (eloc rfl) esn) k1) k3 k4 rfl ((G10.2 Vc i4 (by simp)).trans i3')
  -- without the first log
  generalize hh11 : h10.new (.lst ((msP (N - 1) (mE false ms row)).map Me.pv).reverse) = h11 at st8
  have G11 : Grow [] h8 h11 := by rw [← hh11]; exact G10.new
  have D11 : Lg h11 Lc N (lgP (msP (N - 1) (mE false ms row))) rc := by
    rw [← hh11]
    exact (j2.grow k2).grow (Grow.refl [] h10).new
  have S11 := S8.grow G11
  have p0 := O.lo 0 (by omega)
  have p0' := O.hi 0 (by omega)
  have p2 := O.lo 2 (by omega)
  have p2' := O.hi 2 (by omega)
  have m0 : ((ms.getD 0 0).toNat : Int) = ms.getD 0 0 := by omega
  have m2 : ((ms.getD 2 0).toNat : Int) = ms.getD 2 0 := by omega
  have D12 := D11.anew (i := (ms.getD 0 0).toNat) (by omega) D11.lts
  have st9 : evS T (callF T 11) (.asg (.ix (.loc 6) (.sub (.loc 2) (.cst (.int 0)))) (.lst [])) [some (.fz (ns.map .int)), some (.ref A), some (.ref V), some (.int N), some (.ref L), some (.ref Vc), some (.ref Lc), none, none, none] h11 = some (.nx [some (.fz (ns.map .int)), some (.ref A), some (.ref V), some (.int N), some (.ref L), some (.ref Vc), some (.ref Lc), none, none, none] ((h11.new (.lst [])).put Lc (.lst ((rc.set (ms.getD 0 0).toNat h11.nx).map .ref)))) := by
    have x1 : evE T (callF T 11) false (.lst []) [some (.fz (ns.map .int)), some (.ref A), some (.ref V), some (.int N), some (.ref L), some (.ref Vc), some (.ref Lc), none, none, none] h11 = some (.ref h11.nx, h11.new (.lst [])) := elst esn
    have x2 : evE T (callF T 11) false (.sub (.loc 2) (.cst (.int 0))) [some (.fz (ns.map .int)), some (.ref A), some (.ref V), some (.int N), some (.ref L), some (.ref Vc), some (.ref Lc), none, none, none] (h11.new (.lst [])) = some (.int (ms.getD 0 0), h11.new (.lst [])) := emac (S11.grow (Grow.refl [] h11).new) rfl 0 (by omega)
    have x3 : (h11.new (.lst [])).get Lc = some (.lst (rc.map .ref)) := (MH.new_ne (Nat.ne_of_lt D11.lt)).trans D11.top
    have x4 : setV (.ref Lc) (.int (ms.getD 0 0)) (.ref h11.nx) (h11.new (.lst [])) = some ((h11.new (.lst [])).put Lc (.lst ((rc.set (ms.getD 0 0).toNat h11.nx).map .ref))) := by
      show (match (h11.new (.lst [])).get Lc with
        | some (.lst xs) => (setAt xs (.ref h11.nx) (.int (ms.getD 0 0))).map fun ys => (h11.new (.lst [])).put Lc (.lst ys)
        | _ => none) = _
      rw [x3]
      have : setAt (rc.map PV.ref) (.ref h11.nx) (.int (ms.getD 0 0)) = some ((rc.set (ms.getD 0 0).toNat h11.nx).map .ref) := by
        show ((ixN (rc.map PV.ref).length (ms.getD 0 0)).map fun j => (rc.map PV.ref).set j (.ref h11.nx)) = _
        unfold ixN
        rw [if_pos p0, if_pos (by rw [List.length_map, D11.len]; exact p0')]
        simp [List.map_set]
      simp only [this]
      rfl
    unfold evS
    rw [x1]
    simp only
    unfold evG
    rw [eloc (T := T) (C := callF T 11) (v := .ref Lc) rfl]
    simp only [x2, x4]
  generalize hh12 : ((h11.new (.lst [])).put Lc (.lst ((rc.set (ms.getD 0 0).toNat h11.nx).map .ref))) = h12 at st9 D12
  have G12 : Grow [] h8 h12 := by rw [← hh12]; exact G11.new.put j4
  have ok0 := chain0_ok O lc
  obtain ⟨v4, h13, l1, l2, l3, l4⟩ := s9some 7 D12 ok0 b6 (msP (N - 1) (mE false ms row)).reverse rl (fun F f => ⟨chain_taken O lc (chain0_fnd O lc f), chain_drain O lc (N - 1) F (Nat.le_refl _) (chain0_fnd O lc f)⟩)
  have G13 := G12.trans l2
  have st10 := join_rev (callF T 11) [some (.fz (ns.map .int)), some (.ref A), some (.ref V), some (.int N), some (.ref L), some (.ref Vc), some (.ref Lc), none, none, none] h12 h13 v4 Vc (msP (N - 1) (mE false ms row)) (ecall (esc (eloc rfl) esn) l1) l3 l4 rfl ((G13.2 Vc i4 (by simp)).trans i3')
  generalize hh14 : h13.new (.lst ((msP (N - 1) (mE false ms row)).map Me.pv).reverse) = h14 at st10
  have G14 : Grow [] h8 h14 := by rw [← hh14]; exact G13.new
  have S14 := S8.grow G14
  -- two meetings of one machine and turn
  obtain ⟨h15, n1, n2, n3⟩ := empties (callF T 11) (evG T (callF T 11) (.nm 9)) [9] [some (.fz (ns.map .int)), some (.ref A), some (.ref V), some (.int N), some (.ref L), some (.ref Vc), some (.ref Lc), none, none, none] N b6 h14 (fun x hh => ⟨_, by unfold evG; rfl⟩)
  have e4 : evI T (callF T 11) (.rg1 (.loc 3)) [some (.fz (ns.map .int)), some (.ref A), some (.ref V), some (.int N), some (.ref L), some (.ref Vc), some (.ref Lc), none, none, none] h14 = some (.rng 0 N, h14) := by
    have b3 : (N : Int) < 4611686018427387904 := by omega
    have b4 : (-4611686018427387904 : Int) ≤ N := by omega
    simp [evI, evE, finV, b3, b4]
  have e5 : evE T (callF T 11) false (.lcomp [9] (.lst []) (.nm 9) (.rg1 (.loc 3)) []) [some (.fz (ns.map .int)), some (.ref A), some (.ref V), some (.int N), some (.ref L), some (.ref Vc), some (.ref Lc), none, none, none] h14 = some (.ref h14.nx, h15) := by
    unfold evE
    rw [e4]
    simp only
    rw [if_neg (by decide)]
    exact congrArg (fun z => match z with | some h2 => some (PV.ref h14.nx, h2) | none => none) n1
  have st11 : evS T (callF T 11) (.asg (.nm 6) (.lcomp [9] (.lst []) (.nm 9) (.rg1 (.loc 3)) [])) [some (.fz (ns.map .int)), some (.ref A), some (.ref V), some (.int N), some (.ref L), some (.ref Vc), some (.ref Lc), none, none, none] h14 = some (.nx [some (.fz (ns.map .int)), some (.ref A), some (.ref V), some (.int N), some (.ref L), some (.ref Vc), some (.ref h14.nx), none, none, none] h15) := sasg e5
  have S15 := S14.grow n2
  obtain ⟨h16, r1, r2⟩ := s10g 10 (ms.getD 0 0) 0 (ms.getD 1 0) 0 0 (wOf row 14) h15
  have S16 := S15.grow r2
  have st12 : evS T (callF T 11) (.asg (.nm 7) (.call 10 [(.tup [(.sub (.loc 2) (.cst (.int 0))), (.cst (.int 0))]), (.tup [(.sub (.loc 2) (.cst (.int 1))), (.cst (.int 0))]), (.cst (.int 0)), (.sub (.loc 1) (.cst (.int 14)))])) [some (.fz (ns.map .int)), some (.ref A), some (.ref V), some (.int N), some (.ref L), some (.ref Vc), some (.ref h14.nx), none, none, none] h15 = some (.nx [some (.fz (ns.map .int)), some (.ref A), some (.ref V), some (.int N), some (.ref L), some (.ref Vc), some (.ref h14.nx), some (me (ms.getD 0 0) 0 (ms.getD 1 0) 0 0 (wOf row 14)).pv, none, none] h16) :=
    sasg (ecall (esc (etup (esc (emac S15 rfl 0 (by omega)) (esc ecst esn))) (esc (etup (esc (emac S15 rfl 1 (by omega)) (esc ecst esn))) (esc ecst (esc (erow S15 a4 a3 rfl 14 (by omega)) esn)))) r1)
  obtain ⟨h17, t1, t2⟩ := s10g 10 (ms.getD 2 0) 0 (ms.getD 1 0) 0 1 (wOf row 15) h16
  have S17 := S16.grow t2
  have st13 : evS T (callF T 11) (.asg (.nm 8) (.call 10 [(.tup [(.sub (.loc 2) (.cst (.int 2))), (.cst (.int 0))]), (.tup [(.sub (.loc 2) (.cst (.int 1))), (.cst (.int 0))]), (.cst (.int 1)), (.sub (.loc 1) (.cst (.int 15)))])) [some (.fz (ns.map .int)), some (.ref A), some (.ref V), some (.int N), some (.ref L), some (.ref Vc), some (.ref h14.nx), some (me (ms.getD 0 0) 0 (ms.getD 1 0) 0 0 (wOf row 14)).pv, none, none] h16 = some (.nx [some (.fz (ns.map .int)), some (.ref A), some (.ref V), some (.int N), some (.ref L), some (.ref Vc), some (.ref h14.nx), some (me (ms.getD 0 0) 0 (ms.getD 1 0) 0 0 (wOf row 14)).pv, some (me (ms.getD 2 0) 0 (ms.getD 1 0) 0 1 (wOf row 15)).pv, none] h17) :=
    sasg (ecall (esc (etup (esc (emac S16 rfl 2 (by omega)) (esc ecst esn))) (esc (etup (esc (emac S16 rfl 1 (by omega)) (esc ecst esn))) (esc ecst (esc (erow S16 a4 a3 rfl 15 (by omega)) esn)))) t1)
  have lk1 := me_lk (ms.getD 0 0) 0 (ms.getD 1 0) 0 0 (wOf row 14)
  have lk2 := me_lk (ms.getD 2 0) 0 (ms.getD 1 0) 0 1 (wOf row 15)
  have kk : (me (ms.getD 0 0) 0 (ms.getD 1 0) 0 0 (wOf row 14)).k ≠ (me (ms.getD 2 0) 0 (ms.getD 1 0) 0 1 (wOf row 15)).k := by
    rw [me_k, me_k]
    decide
  generalize me (ms.getD 0 0) 0 (ms.getD 1 0) 0 0 (wOf row 14) = m at *
  generalize me (ms.getD 2 0) 0 (ms.getD 1 0) 0 1 (wOf row 15) = o at *
  have D17 := (n3.grow r2).grow t2
  obtain ⟨r, x1, x2, x3⟩ := D17.get (i := (ms.getD 0 0).toNat) (by omega)
  have G17 : Grow [] h14 h17 := (n2.trans r2).trans t2
  have rge : ∀ r ∈ List.range' (h14.nx + 1) N, h14.nx ≤ r := fun r hr => by
    have := List.mem_range'.mp hr
    omega
  have at0 := atR D17.len p0 p0' x1
  have st14 : evS T (callF T 11) (.ex (.bm 10 (.sub (.loc 6) (.sub (.loc 2) (.cst (.int 0)))) [(.loc 7)])) [some (.fz (ns.map .int)), some (.ref A), some (.ref V), some (.int N), some (.ref L), some (.ref Vc), some (.ref h14.nx), some m.pv, some o.pv, none] h17 = some (.nx [some (.fz (ns.map .int)), some (.ref A), some (.ref V), some (.int N), some (.ref L), some (.ref Vc), some (.ref h14.nx), some m.pv, some o.pv, none] (h17.put r (.lst ([m].map Me.pv)))) :=
    sexp (eappend (esubL (eloc rfl) (emac S17 rfl 0 (by omega)) D17.top at0) x3 (eloc rfl) x3 (by simp [big]))
  have D18 := D17.write x1 [m]
  have G18 : Grow [] h14 (h17.put r (.lst ([m].map Me.pv))) := G17.put (rge r (List.mem_of_getElem? x1))
  have S18 := S14.grow G18
  generalize h17.put r (.lst ([m].map Me.pv)) = h18 at st14 D18 G18 S18
  obtain ⟨v5, h19, y1, y2, y3, y4⟩ := s9some 7 D18 (one_ok O lk1) b6 [m] (by simp) (fun F f => by
    have e := one_fnd (by omega) f
    subst e
    refine ⟨taken_nodup f.nd (fun z hz => ?_) (fun z hz w hw a t _ _ => ?_), one_drain lk1⟩
    · rw [List.mem_singleton.mp hz]
      exact lk1.two fun e => absurd (O.inj 0 1 (by omega) (by omega) e) (by decide)
    · rw [List.mem_singleton.mp hz, List.mem_singleton.mp hw])
  have st15 : evS T (callF T 11) (.ifs (.cmp 1 (.call 9 [(.loc 6)]) (.lst [(.loc 7)])) [
      .ret (.cst (.bl false))] []) [some (.fz (ns.map .int)), some (.ref A), some (.ref V), some (.int N), some (.ref L), some (.ref Vc), some (.ref h14.nx), some m.pv, some o.pv, none] h18 = some (.nx [some (.fz (ns.map .int)), some (.ref A), some (.ref V), some (.int N), some (.ref L), some (.ref Vc), some (.ref h14.nx), some m.pv, some o.pv, none] (h19.new (.lst [m.pv]))) :=
    sifF (ecmp (ecall (esc (eloc rfl) esn) y1) (elst (esc (eloc rfl) esn)) (cmp1_lists (l := [m]) ((MH.new_ne (Nat.ne_of_lt y4)).trans y3) MH.new_same))
  have G20 : Grow [] h14 (h19.new (.lst [m.pv])) := (G18.trans y2).new
  have D20 := (D18.grow y2).grow ((Grow.refl [] h19).new (o := .lst [m.pv]))
  have S20 := S14.grow G20
  generalize h19.new (.lst [m.pv]) = h20 at st15 G20 D20 S20
  obtain ⟨r', z1, z2, z3⟩ := D20.get (i := (ms.getD 2 0).toNat) (by omega)
  have ne20 : (ms.getD 2 0).toNat ≠ (ms.getD 0 0).toNat := fun e => absurd (O.inj 2 0 (by omega) (by omega) (by omega)) (by decide)
  rw [if_neg ne20] at z3
  have at2 := atR D20.len p2 p2' z1
  have st16 : evS T (callF T 11) (.ex (.bm 10 (.sub (.loc 6) (.sub (.loc 2) (.cst (.int 2)))) [(.loc 8)])) [some (.fz (ns.map .int)), some (.ref A), some (.ref V), some (.int N), some (.ref L), some (.ref Vc), some (.ref h14.nx), some m.pv, some o.pv, none] h20 = some (.nx [some (.fz (ns.map .int)), some (.ref A), some (.ref V), some (.int N), some (.ref L), some (.ref Vc), some (.ref h14.nx), some m.pv, some o.pv, none] (h20.put r' (.lst ([o].map Me.pv)))) :=
    sexp (eappend (esubL (eloc rfl) (emac S20 rfl 2 (by omega)) D20.top at2) z3 (eloc rfl) z3 (by simp [big]))
  have D21 := D20.write z1 [o]
  generalize h20.put r' (.lst ([o].map Me.pv)) = h21 at st16 D21
  obtain ⟨h22, w1, w2⟩ := s9none 7 D21 (two_ok O lk1 lk2 kk) b6 (fun F f => .inl (two_fnd O lk1 lk2 kk f))
  have st17 : evS T (callF T 11) (.ret (.cmp 8 (.call 9 [(.loc 6)]) (.cst .non))) [some (.fz (ns.map .int)), some (.ref A), some (.ref V), some (.int N), some (.ref L), some (.ref Vc), some (.ref h14.nx), some m.pv, some o.pv, none] h21 = some (.rt (.bl true) h22) :=
    sret (ecmp (ecall (esc (eloc rfl) esn) w1) ecst rfl)
  exact ⟨h22, callw [some (.fz (ns.map .int)), none, none, none, none, none, none, none, none, none] fn0 rfl rfl (ssc st1 (ssc st2 (ssc st3 (ssc st4 (ssc st5 (ssc st6 (ssc st7 (ssc st8 (ssc st9 (ssc st10 (ssc st11 (ssc st12 (ssc st13 (ssc st14 (ssc st15 (ssc st16 (ssr st17))))))))))))))))) rfl⟩
end K71
namespace K71
open PySem PySem.Spec L2 Mp
theorem law_bs (ns : List Int) : ∃ h', BS T (.cl 36 0 [.fz (ns.map .int)] h0M (.ok (.bl true) h')) :=
  let ⟨h', e⟩ := law_cf ns
  ⟨h', callF_ok K71.T 12 0 _ _ _ e⟩
end K71
open PySem PySem.W PySem.Calls PyProof.Rows in
theorem PySem.Challenge.cw_fullseats_k71_rings_of_logs_holds : PySem.Challenge.rw_fullseats_k71_rings_of_logs.Holds := by
  w_on; o_law
  refine HandSHeadRun.head_any (r := K71.R) (q := view K71.R.prog [23]) (H := K71.hk) (ob := Mp.obM K71.T K71.exs 5) (M := 3000) (loose := K71.loose) (d := HandSHeadRun.topDef K71.R.prog 23) (kwd := []) (Mp.obM_eq K71.T K71.exs 5)
    (by kernel_rfl) (fun s => by kernel_rfl) K71.run (by kernel_rfl) (by kernel_rfl) (by kernel_rfl) (by rfl) (by first | assumption | decide +kernel) (by decide +kernel) ⟨rfl, rfl, rfl, rfl, rfl, by decide +kernel⟩ ?hw ?hc
  case hw => w_witness2
  case hc =>
    refine L2.walk_ofE (l := PySem.Challenge.rw_fullseats_k71_rings_of_logs) (n := 63) (k := 36) (x := "_law_script") (CX := Mp.CXA K71.R.prog) rfl (by decide) (by kernel_rfl) ⟨rfl, by decide, by decide⟩ ?F (fun H s e s' z => Mp.cxa_no H s e s' z)
    intro w mg fa h Y G hmg0
    obtain ⟨K, KX, c⟩ := Y
    have hmg : mg ("law" : PySem.Str) = some (.ref fa) := by
      have e : (HandSHeadRun.topDef K71.R.prog 23).name = ("law" : PySem.Str) := by kernel_rfl
      rw [← e]
      exact hmg0
    obtain ⟨hE, hlaw⟩ : ∃ hE : List Int → Mp.MH, ∀ ns : List Int, ns.length ≤ 63 → Mp.BS K71.T (.cl 36 0 [.fz (ns.map .int)] Mp.h0M (.ok (.bl true) (hE ns))) :=
      ⟨fun ns => Classical.choose (K71.law_bs ns), fun ns _ => Classical.choose_spec (K71.law_bs ns)⟩
    obtain ⟨fd, hb, hF⟩ := Mp.law_facts (P := K71.R.prog) (w := w) KX G hmg c K71.tab_ok K71.bfns K71.bexs (lid := 0) (F := K71.f0) rfl rfl rfl rfl rfl hlaw
    exact ⟨K, fd, _, KX, hb, fun H a ns hl _ hS => Mp.law_sp hl hS, fun base _ _ => Mp.fn_any (hF base)⟩
