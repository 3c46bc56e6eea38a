import PyProof.Rows.All
import Wide.All
import OpenK.AllK
import Wide.FinOn
import HandS.ForMost
import HandS.Flow
import HandS.Style
import HandS.Star
import HandS.IsInst
import HandS.TryOnly
import HandS.TryMany
import HandS.ExcOwn
import HandS.CallSlots
import HandS.Conv
import HandS.NoneIn
import HandS.WordsExc
import HandS.TupAny
import HandS.TupMul
import HandS.TupLe
import HandS.Zip
import HandS.Wide
import HandS.Small
import HandS.DictTup
import HandS.More
import HandS.WordsDict
import HandS.TupLen
import HandS.RaiseMore
import HandS.DictComp
import HandS.ReCall
import HandS.Strs
import KE.DataEq
import KE.SortData
import HandS.ClsMeth
import HandS.New0
import HandS.Codes
import PySem.Challenge.RW_startnow_k08_histories_recognized
set_option Elab.async false
set_option linter.all false
set_option maxRecDepth 100000
namespace Sn
open PySem PySem.Spec PyProof.Rows L2
/-- a dict's keys -/
inductive DK where
  | k (ks : List Key)
  | t (ks : List (List Key))
/-- a value of the small language: tuples, lists and dicts as values, and places of things that change -/
inductive PV where
  | non
  | bl (b : Bool)
  | int (i : Int)
  | str (s : Str)
  | tup (g : Bool) (xs : List PV)
  | lst (xs : List PV)
  | scr (xs : List PV)
  | dct (ks : DK) (xs : List PV)
  | loc (l : Nat)
  | ty (n : String)
  | ob
instance : Inhabited PV := ⟨.non⟩
/-- a thing that changes -/
inductive MO where
  | lst (xs : List PV)
  | dct (ks : DK) (xs : List PV)
  | ins (C : Str) (fs : List (Str × PV))
abbrev Mu := List MO
abbrev Rho := List (Option PV)
/-- a list read only: among the frozen things, or apart from what changes -/
def ScR (K : PySem.W.Frag) (B I : List Addr) (H : Hp) (a : Addr) (vs : List V) : Prop :=
  (Rd H a (.lst vs) ∧ a ∉ I ∧ a ∉ B) ∨ ((∀ H', SqL K H' a vs) ∧ True)
def keyP : Key → PV
  | .inl i => .int i
  | .inr x => .str x
/-- a dict stands there, perhaps locked -/
def DRd (H : Hp) (a : Addr) (o : HO) : Prop := H a = some o ∨ ∃ ks fo, o = .dK ks ∧ H a = some (.frz fo o)
/-- a dict's object: the keys and the values -/
def DKs (o : HO) (keys : DK) (vs : List V) : Prop :=
  (∃ es : List (Key × V), o = .dK es ∧ keys = .k (es.map (·.1)) ∧ vs = es.map (·.2)) ∨
    ∃ es : List (List Key × V), o = .dT es ∧ keys = .t (es.map (·.1)) ∧ vs = es.map (·.2)
/-- a tuple stands there: with its object known (true), or not -/
def TupR (H : Hp) (a : Addr) : Bool → List V → Prop
  | true, vs => ∃ o, o.dict = none ∧ H a = some (.frz o (.tup vs))
  | false, vs => H a = some (.tup vs)
theorem TupR.rd {H : Hp} {a : Addr} {vs : List V} : ∀ {g : Bool}, TupR H a g vs → Rd H a (.tup vs)
  | true, ⟨o, _, h⟩ => .inr ⟨o, h⟩
  | false, h => .inl h
theorem TupR.sq {K : PySem.W.Frag} {H : Hp} {a : Addr} {g : Bool} {vs : List V} (h : TupR H a g vs) : SqT K H a vs := .inl h.rd
theorem TupR.imp {H H' : Hp} {a : Addr} {vs : List V} : ∀ {g : Bool}, TupR H a g vs → (∀ o, H a = some o → H' a = some o) → TupR H' a g vs
  | true, ⟨o, e, h⟩, k => ⟨o, e, k _ h⟩
  | false, h, k => k _ h
theorem TupR.ne {H : Hp} {a : Addr} {vs : List V} {o : HO} (e : H a = some o) (hn : ∀ vs, o ≠ .tup vs ∧ ∀ q, o ≠ .frz q (.tup vs)) : ∀ {g : Bool}, ¬ TupR H a g vs
  | true, ⟨q, _, h⟩ => by rw [e] at h; cases h; exact (hn vs).2 q rfl
  | false, h => by
    have h : H a = some (.tup vs) := h
    rw [e] at h; cases h; exact (hn vs).1 rfl
theorem TupR.some {H : Hp} {a : Addr} {vs : List V} : ∀ {g : Bool}, TupR H a g vs → H a ≠ none
  | true, ⟨q, _, h⟩ => by rw [h]; simp
  | false, h => by
    have h : H a = _ := h
    rw [h]; simp
/-- an own class whose instances are told apart from the values of the built-in kinds -/
structure ObC (K : PySem.W.Frag) (C : Addr) : Prop where
  cl : Cls K C
  ha : PySem.W.findIn K (.ref C) "__class__" = some (some (.builtin "object.__class__"))
  hn : PySem.W.specialIn K (.builtin "object.__class__") "__get__" = some (some (.builtin "getset_descriptor.__get__"))
  htk : PySem.W.takesIn K (.builtin "object.__class__") = some true
  hm : PySem.W.mroIn K C (.type "object") = some true
  no : ∀ t ∈ ["int", "str", "bool", "tuple", "list"], PySem.W.kitOne K (.ref C) (.type t) = some false
mutual
/-- the value v stands for p; I: where the changing things stand -/
inductive RV (K : PySem.W.Frag) (B I : List Addr) (H : Hp) : V → PV → Prop
  | non : RV K B I H .non .non
  | bl (b : Bool) : RV K B I H (.bl b) (.bl b)
  | int (i : Int) : RV K B I H (.int i) (.int i)
  | str (x : Str) : RV K B I H (.str x) (.str x)
  | ty (n : String) : RV K B I H (.ty n) (.ty n)
  | tup {a : Addr} {g : Bool} {vs : List V} {xs : List PV} : TupR H a g vs → RVs K B I H vs xs → RV K B I H (.ref a) (.tup g xs)
  | lst {a : Addr} {vs : List V} {xs : List PV} : H a = some (.lst vs) → a ∉ I → a ∉ B → RVs K B I H vs xs → RV K B I H (.ref a) (.lst xs)
  | scr {a : Addr} {vs : List V} {xs : List PV} : ScR K B I H a vs → RVs K B I H vs xs → RV K B I H (.ref a) (.scr xs)
  | dct {a : Addr} {o : HO} {vs : List V} {ks : DK} {xs : List PV} : DRd H a o → a ∉ I → a ∉ B → DKs o ks vs → RVs K B I H vs xs → RV K B I H (.ref a) (.dct ks xs)
  | loc {a : Addr} {l : Nat} : I[l]? = some a → RV K B I H (.ref a) (.loc l)
inductive RVs (K : PySem.W.Frag) (B I : List Addr) (H : Hp) : List V → List PV → Prop
  | nil : RVs K B I H [] []
  | cons {v : V} {vs : List V} {x : PV} {xs : List PV} : RV K B I H v x → RVs K B I H vs xs → RVs K B I H (v :: vs) (x :: xs)
end
theorem ScR.sq {K : PySem.W.Frag} {B I : List Addr} {H : Hp} {a : Addr} {vs : List V} (h : ScR K B I H a vs) : SqL K H a vs := h.elim (fun h => .inl h.1) fun h => h.1 H
/-- what stands at the places of the changing things -/
def MOk (K : PySem.W.Frag) (B I : List Addr) (H : Hp) (a : Addr) : MO → Prop
  | .lst xs => ∃ vs, H a = some (.lst vs) ∧ RVs K B I H vs xs
  | .dct ks xs => ∃ o vs, H a = some o ∧ DKs o ks vs ∧ RVs K B I H vs xs
  | .ins C fs => ∃ (Ca dx : Addr) (ws : List (Str × V)), PySem.W.nsIn K mainGlobals C = some (some (.ref Ca)) ∧ ObC K Ca ∧ H a = some (.ins Ca dx ws) ∧ ws.map (·.1) = fs.map (·.1) ∧ RVs K B I H (ws.map (·.2)) (fs.map (·.2))
theorem MOk.to {K : PySem.W.Frag} {B I B' I' : List Addr} {H H' : Hp} {a : Addr} {o : MO} (h : MOk K B I H a o) (k : ∀ q, H a = some q → H' a = some q) (r : ∀ vs ps, RVs K B I H vs ps → RVs K B' I' H' vs ps) : MOk K B' I' H' a o := by
  cases o with
  | lst xs =>
    obtain ⟨vs, e, q⟩ := h
    exact ⟨vs, k _ e, r _ _ q⟩
  | dct ks xs =>
    obtain ⟨o, vs, e, d, q⟩ := h
    exact ⟨o, vs, k _ e, d, r _ _ q⟩
  | ins C fs =>
    obtain ⟨Ca, dx, ws, n, oc, e, hn, q⟩ := h
    exact ⟨Ca, dx, ws, n, oc, k _ e, hn, r _ _ q⟩
theorem MOk.ne0 {K : PySem.W.Frag} {B I : List Addr} {H : Hp} {a : Addr} {o : MO} (h : MOk K B I H a o) : H a ≠ none := by
  cases o with
  | lst xs =>
    obtain ⟨vs, e, q⟩ := h
    rw [e]; simp
  | dct ks xs =>
    obtain ⟨o, vs, e, d, q⟩ := h
    rw [e]; simp
  | ins C fs =>
    obtain ⟨Ca, dx, ws, n, oc, e, hn, q⟩ := h
    rw [e]; simp
theorem MOk.noTup {K : PySem.W.Frag} {B I : List Addr} {H : Hp} {a : Addr} {o : MO} (h : MOk K B I H a o) {g : Bool} {vs : List V} : ¬ TupR H a g vs := by
  cases o with
  | lst xs =>
    obtain ⟨vs, e, q⟩ := h
    exact TupR.ne e (by simp)
  | dct ks xs =>
    obtain ⟨o, vs, e, d, q⟩ := h
    exact TupR.ne e (by rcases d with ⟨ks, rfl, _⟩ | ⟨ks, rfl, _⟩ <;> simp)
  | ins C fs =>
    obtain ⟨Ca, dx, ws, n, oc, e, hn, q⟩ := h
    exact TupR.ne e (by simp)
structure RM (K : PySem.W.Frag) (B I : List Addr) (H : Hp) (m : Mu) : Prop where
  len : I.length = m.length
  nod : I.Nodup
  trB : ∀ a ∈ B, H a ≠ none
  dis : ∀ a ∈ B, a ∉ I
  at_ : ∀ (l : Nat) (a : Addr) (o : MO), I[l]? = some a → m[l]? = some o → MOk K B I H a o
/-- further on: more changing things, what stood stands -/
structure Nx (I I' : List Addr) (H H' : Hp) : Prop where
  ext : ∃ J, I' = I ++ J ∧ ∀ a ∈ J, H a = none
  keep : ∀ a o, H a = some o → a ∉ I → H' a = some o
  dom : ∀ a, H' a = none → H a = none
theorem Nx.refl (I : List Addr) (H : Hp) : Nx I I H H := ⟨⟨[], by simp, by simp⟩, fun _ _ h _ => h, fun _ h => h⟩
section
variable {K : PySem.W.Frag} {I I' B : List Addr} {H H' : Hp} {m : Mu}
theorem RM.getI (h : RM K B I H m) {a : Addr} (ha : a ∈ I) : ∃ o, MOk K B I H a o := by
  obtain ⟨l, hl, e⟩ := List.getElem_of_mem ha
  have hm : l < m.length := h.len ▸ hl
  exact ⟨m[l], h.at_ l a m[l] (by simp [hl, e]) (by simp [hm])⟩
theorem RM.tr (h : RM K B I H m) {a : Addr} (ha : a ∈ I) : H a ≠ none := by
  obtain ⟨o, q⟩ := h.getI ha
  exact q.ne0
theorem Nx.trans {I1 I2 : List Addr} {H1 H2 : Hp} (a : Nx I I1 H H1) (b : Nx I1 I2 H1 H2) : Nx I I2 H H2 := by
  obtain ⟨J, rfl, hJ⟩ := a.ext
  obtain ⟨J2, rfl, hJ2⟩ := b.ext
  refine ⟨⟨J ++ J2, by simp, fun x hx => ?_⟩, fun x o e hx => ?_, fun x h => a.dom x (b.dom x h)⟩
  · rcases List.mem_append.mp hx with h | h
    · exact hJ x h
    · exact a.dom x (hJ2 x h)
  · refine b.keep x o (a.keep x o e hx) fun h => ?_
    rcases List.mem_append.mp h with h | h
    · exact hx h
    · rw [hJ x h] at e; cases e
/-- nothing tracked changes -/
theorem Nx.same (I : List Addr) (s : Same H H') : Nx I I H H' := ⟨⟨[], by simp, by simp⟩, fun a o h _ => s a o h, fun a h => s.free h⟩
theorem Nx.rd (n : Nx I I' H H') {a : Addr} {u : HO} (h : Rd H a u) (ha : a ∉ I) : Rd H' a u := by
  rcases h with h | ⟨o, h⟩
  · exact .inl (n.keep _ _ h ha)
  · exact .inr ⟨o, n.keep _ _ h ha⟩
theorem Nx.drd (n : Nx I I' H H') {a : Addr} {u : HO} (h : DRd H a u) (ha : a ∉ I) : DRd H' a u := by
  rcases h with h | ⟨ks, o, e, h⟩
  · exact .inl (n.keep _ _ h ha)
  · exact .inr ⟨ks, o, e, n.keep _ _ h ha⟩
theorem Nx.sqL (n : Nx I I' H H') {a : Addr} {vs : List V} (h : SqL K H a vs) (ha : a ∉ I) : SqL K H' a vs := by
  rcases h with h | h
  · exact .inl (n.rd h ha)
  · exact .inr h
/-- a tuple is none of the changing things -/
theorem Nx.tupK (n : Nx I I' H H') (tf : RM K B I H m) {a : Addr} {g : Bool} {vs : List V} (h : TupR H a g vs) : TupR H' a g vs := by
  by_cases ha : a ∈ I
  · obtain ⟨o, q⟩ := tf.getI ha
    exact absurd h q.noTup
  · exact h.imp fun o e => n.keep _ _ e ha
theorem Nx.fresh (n : Nx I I' H H') {a : Addr} (h : a ∉ I) (ha : H a ≠ none) : a ∉ I' := by
  obtain ⟨J, rfl, hJ⟩ := n.ext
  intro hm
  rcases List.mem_append.mp hm with q | q
  · exact h q
  · exact ha (hJ a q)
theorem Nx.get (n : Nx I I' H H') {a : Addr} {l : Nat} (h : I[l]? = some a) : I'[l]? = some a := by
  obtain ⟨J, rfl, _⟩ := n.ext
  rw [List.getElem?_append_left (List.getElem?_eq_some_iff.mp h).1]
  exact h
mutual
theorem RV.nx (n : Nx I I' H H') (tf : RM K B I H m) : ∀ {v : V} {p : PV}, RV K B I H v p → RV K B I' H' v p
  | _, _, .non => .non
  | _, _, .bl b => .bl b
  | _, _, .int i => .int i
  | _, _, .str x => .str x
  | _, _, .ty x => .ty x
  | _, _, .tup h hs => .tup (n.tupK tf h) (RVs.nx n tf hs)
  | _, _, .dct h ha hb hd hs => .dct (n.drd h ha) (n.fresh ha (by rcases h with h | ⟨ks, o, _, h⟩ <;> rw [h] <;> simp)) hb hd (RVs.nx n tf hs)
  | _, _, .lst h ha hb hs => .lst (n.keep _ _ h ha) (n.fresh ha (by rw [h]; simp)) hb (RVs.nx n tf hs)
  | _, _, .scr h hs => .scr (h.imp (fun ⟨h, ha, hb⟩ => ⟨n.rd h ha, n.fresh ha (by rcases h with h | ⟨o, h⟩ <;> rw [h] <;> simp), hb⟩) id) (RVs.nx n tf hs)
  | _, _, .loc (l := l) h => .loc (n.get h)
theorem RVs.nx (n : Nx I I' H H') (tf : RM K B I H m) : ∀ {vs : List V} {ps : List PV}, RVs K B I H vs ps → RVs K B I' H' vs ps
  | _, _, .nil => .nil
  | _, _, .cons h hs => .cons (RV.nx n tf h) (RVs.nx n tf hs)
end
/-- nothing tracked changes, more may be tracked -/
theorem RM.same (h : RM K B I H m) (s : Same H H') : RM K B I H' m := by
  refine ⟨h.len, h.nod, fun a ha hn => h.trB a ha (s.free hn), h.dis, fun l a o e1 e2 => ?_⟩
  exact (h.at_ l a o e1 e2).to (fun q e => s _ _ e) fun _ _ r => r.nx (Nx.same I s) h
theorem RVs.length : ∀ {vs : List V} {ps : List PV}, RVs K B I H vs ps → vs.length = ps.length
  | _, _, .nil => rfl
  | _, _, .cons _ t => by rw [List.length_cons, List.length_cons, RVs.length t]
theorem RVs.get : ∀ {vs : List V} {ps : List PV} {i : Nat} {p : PV}, RVs K B I H vs ps → ps[i]? = some p → ∃ v, vs[i]? = some v ∧ RV K B I H v p
  | _, _, _, _, .nil, e => by simp at e
  | _, _, 0, _, .cons r _, e => by simp at e; subst e; exact ⟨_, rfl, r⟩
  | _, _, i + 1, p, .cons _ t, e => by
    obtain ⟨v, h1, h2⟩ := RVs.get (i := i) (p := p) t (by simpa using e)
    exact ⟨v, by simpa using h1, h2⟩
theorem RVs.append : ∀ {vs ws : List V} {ps qs : List PV}, RVs K B I H vs ps → RVs K B I H ws qs → RVs K B I H (vs ++ ws) (ps ++ qs)
  | _, _, _, _, .nil, s => s
  | _, _, _, _, .cons r t, s => .cons r (RVs.append t s)
theorem RVs.take : ∀ {vs : List V} {ps : List PV} (n : Nat), RVs K B I H vs ps → RVs K B I H (vs.take n) (ps.take n)
  | _, _, 0, _ => by simp; exact .nil
  | _, _, _ + 1, .nil => .nil
  | _, _, n + 1, .cons r t => .cons r (RVs.take n t)
theorem RVs.drop : ∀ {vs : List V} {ps : List PV} (n : Nat), RVs K B I H vs ps → RVs K B I H (vs.drop n) (ps.drop n)
  | _, _, 0, r => r
  | _, _, _ + 1, .nil => .nil
  | _, _, n + 1, .cons _ t => RVs.drop n t
theorem RVs.set {v : V} {p : PV} (r : RV K B I H v p) : ∀ {vs : List V} {ps : List PV} (i : Nat), RVs K B I H vs ps → RVs K B I H (vs.set i v) (ps.set i p)
  | _, _, _, .nil => .nil
  | _, _, 0, .cons _ t => .cons r t
  | _, _, i + 1, .cons q t => .cons q (RVs.set r i t)
theorem RVs.reverse : ∀ {vs : List V} {ps : List PV}, RVs K B I H vs ps → RVs K B I H vs.reverse ps.reverse
  | _, _, .nil => .nil
  | _, _, .cons r t => by
    rw [List.reverse_cons, List.reverse_cons]
    exact (RVs.reverse t).append (.cons r .nil)
end
/-! ### what is read: a thing that changes is seen through -/
def drf (m : Mu) : PV → PV
  | .loc l => match m[l]? with
    | some (.lst xs) => .lst xs
    | some (.dct ks xs) => .dct ks xs
    | some (.ins _ _) => .ob
    | none => .loc l
  | p => p
/-- v stands for p, perhaps a thing that changes, as it is now -/
def RT (K : PySem.W.Frag) (B I : List Addr) (H : Hp) (v : V) (p : PV) : Prop :=
  RV K B I H v p ∨ (∃ a vs xs, v = .ref a ∧ p = .lst xs ∧ H a = some (.lst vs) ∧ RVs K B I H vs xs) ∨ (∃ a o vs ks xs, v = .ref a ∧ p = .dct ks xs ∧ H a = some o ∧ DKs o ks vs ∧ RVs K B I H vs xs) ∨ ∃ a Ca dx ws, v = .ref a ∧ p = .ob ∧ H a = some (.ins Ca dx ws) ∧ ObC K Ca
section
variable {K : PySem.W.Frag} {I I' B : List Addr} {H H' : Hp} {m : Mu} {v : V}
theorem RV.rt (h : RM K B I H m) {p : PV} (r : RV K B I H v p) : RT K B I H v (drf m p) := by
  cases r with
  | loc e =>
    rename_i a l
    cases q : m[l]? with
    | none => simp only [drf, q]; exact .inl (.loc e)
    | some o =>
      have z := h.at_ l a o e q
      cases o with
      | lst xs =>
        obtain ⟨vs, e2, r2⟩ := z
        simp only [drf, q]
        exact .inr (.inl ⟨a, vs, xs, rfl, rfl, e2, r2⟩)
      | dct ks xs =>
        obtain ⟨o, vs, e2, d, r2⟩ := z
        simp only [drf, q]
        exact .inr (.inr (.inl ⟨a, o, vs, ks, xs, rfl, rfl, e2, d, r2⟩))
      | ins C fs =>
        obtain ⟨Ca, dx, ws, n, oc, e2, hn, r2⟩ := z
        simp only [drf, q]
        exact .inr (.inr (.inr ⟨a, Ca, dx, ws, rfl, rfl, e2, oc⟩))
  | _ => exact .inl (by constructor <;> assumption)
theorem RT.scr {xs : List PV} (r : RT K B I H v (.scr xs)) : ∃ a vs, v = .ref a ∧ SqL K H a vs ∧ RVs K B I H vs xs := by
  rcases r with r | ⟨a, vs, ys, e, e2, h, r⟩ | ⟨a, o, vs, ks', ys, e, e2, h, d, r⟩ | ⟨a, Ca, dx, ws, e, e2, h, oc⟩
  · cases r with
    | scr h r => exact ⟨_, _, rfl, h.sq, r⟩
  · cases e2
  · cases e2
  · cases e2
theorem RT.lst {xs : List PV} (r : RT K B I H v (.lst xs)) : ∃ a vs, v = .ref a ∧ H a = some (.lst vs) ∧ RVs K B I H vs xs := by
  rcases r with r | ⟨a, vs, ys, e, e2, h, r⟩ | ⟨a, o, vs, ks', ys, e, e2, h, d, r⟩ | ⟨a, Ca, dx, ws, e, e2, h, oc⟩
  · cases r with
    | lst h _ _ r => exact ⟨_, _, rfl, h, r⟩
  · cases e2
    exact ⟨a, vs, e, h, r⟩
  · cases e2
  · cases e2
theorem RT.dct {ks : DK} {xs : List PV} (r : RT K B I H v (.dct ks xs)) : ∃ a o vs, v = .ref a ∧ DRd H a o ∧ DKs o ks vs ∧ RVs K B I H vs xs := by
  rcases r with r | ⟨a, vs, ys, e, e2, h, r⟩ | ⟨a, o, vs, ks', ys, e, e2, h, d, r⟩ | ⟨a, Ca, dx, ws, e, e2, h, oc⟩
  · cases r with
    | dct h _ _ d r => exact ⟨_, _, _, rfl, h, d, r⟩
  · cases e2
  · cases e2
    exact ⟨a, o, vs, e, .inl h, d, r⟩
  · cases e2
theorem RT.tupH {g : Bool} {xs : List PV} (r : RT K B I H v (.tup g xs)) : ∃ a vs, v = .ref a ∧ TupR H a g vs ∧ RVs K B I H vs xs := by
  rcases r with r | ⟨a, vs, ys, e, e2, h, r⟩ | ⟨a, o, vs, ks', ys, e, e2, h, d, r⟩ | ⟨a, Ca, dx, ws, e, e2, h, oc⟩
  · cases r with
    | tup h r => exact ⟨_, _, rfl, h, r⟩
  · cases e2
  · cases e2
  · cases e2
theorem RT.tup {g : Bool} {xs : List PV} (r : RT K B I H v (.tup g xs)) : ∃ a vs, v = .ref a ∧ SqT K H a vs ∧ RVs K B I H vs xs := by
  obtain ⟨a, vs, e, h, r⟩ := r.tupH
  exact ⟨a, vs, e, h.sq, r⟩
theorem RT.int {i : Int} (r : RT K B I H v (.int i)) : v = .int i := by
  rcases r with r | ⟨a, vs, ys, e, e2, h, r⟩ | ⟨a, o, vs, ks', ys, e, e2, h, d, r⟩ | ⟨a, Ca, dx, ws, e, e2, h, oc⟩
  · cases r; rfl
  · cases e2
  · cases e2
  · cases e2
theorem RT.bl {i : Bool} (r : RT K B I H v (.bl i)) : v = .bl i := by
  rcases r with r | ⟨a, vs, ys, e, e2, h, r⟩ | ⟨a, o, vs, ks', ys, e, e2, h, d, r⟩ | ⟨a, Ca, dx, ws, e, e2, h, oc⟩
  · cases r; rfl
  · cases e2
  · cases e2
  · cases e2
theorem RT.str {i : Str} (r : RT K B I H v (.str i)) : v = .str i := by
  rcases r with r | ⟨a, vs, ys, e, e2, h, r⟩ | ⟨a, o, vs, ks', ys, e, e2, h, d, r⟩ | ⟨a, Ca, dx, ws, e, e2, h, oc⟩
  · cases r; rfl
  · cases e2
  · cases e2
  · cases e2
theorem RT.non (r : RT K B I H v .non) : v = .non := by
  rcases r with r | ⟨a, vs, ys, e, e2, h, r⟩ | ⟨a, o, vs, ks', ys, e, e2, h, d, r⟩ | ⟨a, Ca, dx, ws, e, e2, h, oc⟩
  · cases r; rfl
  · cases e2
  · cases e2
  · cases e2
theorem RT.ty {i : String} (r : RT K B I H v (.ty i)) : v = .ty i := by
  rcases r with r | ⟨a, vs, ys, e, e2, h, r⟩ | ⟨a, o, vs, ks', ys, e, e2, h, d, r⟩ | ⟨a, Ca, dx, ws, e, e2, h, oc⟩
  · cases r; rfl
  · cases e2
  · cases e2
  · cases e2
end
/-! ### the small language -/
inductive Bf where
  | isinstance | len | abs | max | min | int | str | tuple | list | sorted | all | any | sum
  deriving DecidableEq
inductive Mf where
  | join | index | split | partition | startswith | items | values | get
  deriving DecidableEq
inductive Pr where
  | bin (o : Operator) | cmp (o : CmpOp) | neg | not_ | item | slc (lo hi : Bool) | rev
  | tup | ktup | lst | blt (f : Bf) | mth (f : Mf)
  deriving DecidableEq
/-- where a value is put -/
inductive Tg where
  | nm (i : Nat)
  | tup (is : List Nat)
mutual
inductive Ex where
  | nm (i : Nat)
  | cst (p : PV)
  | pr (o : Pr) (as : Exs)
  | and_ (a b : Ex)
  | or_ (a b : Ex)
  | ite (c a b : Ex)
  | chn (a : Ex) (o : CmpOp) (b : Ex) (o2 : CmpOp) (c : Ex)
  | cut2 (a b c : Ex)
  | call (f : Str) (as : Exs)
  | callk (f : Str) (as bs : Exs) (n k : Nat) (perm : List Nat)
  | thw (e : Ex)
  | comp (tg : Tg) (it : Wk) (own : List Nat) (c e : Ex)
  | dnew (tk : Bool)
  | fld (cs : List Str) (o : Ex) (f : Str)
  | mk (C : Str) (as : Exs)
  | idx (o e : Ex)
  | dcomp (tg : Tg) (it : Wk) (own : List Nat) (c k v : Ex)
  | comp2 (tg : Tg) (it : Wk) (own : List Nat) (c : Ex) (tg1 : Tg) (it1 : Wk) (own1 : List Nat) (c1 e : Ex)
inductive Wk where
  | seq (e : Ex)
  | rng (a : Ex)
  | rng2 (a b : Ex)
  | zip (a b : Ex)
  | enm (a : Ex)
inductive Exs where
  | nil
  | cons (st : Bool) (e : Ex) (es : Exs)
end
def bop : BoolOp → Ex → Ex → Ex
  | .And, a, b => .and_ a b
  | .Or, a, b => .or_ a b
/-- what comes out -/
inductive Res (α : Type) where
  | ok (a : α) (m : Mu)
  | exc (c : Str) (p : Option PV) (m : Mu)
  | stuck
def Res.bind {α β : Type} : Res α → (α → Mu → Res β) → Res β
  | .ok a m, f => f a m
  | .exc c p m, _ => .exc c p m
  | .stuck, _ => .stuck
abbrev FEnv := Str → List PV → Mu → Res PV
def oRes (m : Mu) : Option PV → Res PV
  | some p => .ok p m
  | none => .stuck
/-! ### values as data -/
mutual
def toD : PV → Option PyData
  | .non => some .none
  | .bl b => some (.bool b)
  | .int i => some (.int i)
  | .str x => some (.str x)
  | .tup _ xs => (toDs xs).map .tuple
  | .lst xs => (toDs xs).map .list
  | .scr xs => (toDs xs).map .list
  | _ => none
def toDs : List PV → Option (List PyData)
  | [] => some []
  | x :: xs => match toD x, toDs xs with
    | some d, some ds => some (d :: ds)
    | _, _ => none
end
mutual
/-- nesting -/
def dep : PV → Nat
  | .tup _ xs => deps xs + 1
  | .lst xs => deps xs + 1
  | .scr xs => deps xs + 1
  | _ => 0
def deps : List PV → Nat
  | [] => 0
  | x :: xs => max (dep x) (deps xs)
end
mutual
theorem toD_plain : ∀ {p : PV} {d : PyData}, toD p = some d → d.plain = true
  | .non, _, h => by simp [toD] at h; subst h; rfl
  | .bl _, _, h => by simp [toD] at h; subst h; rfl
  | .int _, _, h => by simp [toD] at h; subst h; rfl
  | .str _, _, h => by simp [toD] at h; subst h; rfl
  | .tup _ xs, _, h => by
    simp only [toD, Option.map_eq_some_iff] at h
    obtain ⟨ds, e, rfl⟩ := h
    simp only [PyData.plain]; exact toDs_plain e
  | .lst xs, _, h => by
    simp only [toD, Option.map_eq_some_iff] at h
    obtain ⟨ds, e, rfl⟩ := h
    simp only [PyData.plain]; exact toDs_plain e
  | .scr xs, _, h => by
    simp only [toD, Option.map_eq_some_iff] at h
    obtain ⟨ds, e, rfl⟩ := h
    simp only [PyData.plain]; exact toDs_plain e
  | .dct _ _, _, h => by simp [toD] at h
  | .loc _, _, h => by simp [toD] at h
  | .ty _, _, h => by simp [toD] at h
  | .ob, _, h => by simp [toD] at h
theorem toDs_plain : ∀ {xs : List PV} {ds : List PyData}, toDs xs = some ds → PyData.plainAll ds = true
  | [], _, h => by simp [toDs] at h; subst h; rfl
  | x :: xs, _, h => by
    simp only [toDs] at h
    split at h
    · rename_i d ds e1 e2
      cases h
      simp only [PyData.plainAll, toD_plain e1, toDs_plain e2, Bool.and_self]
    · cases h
end
mutual
theorem toD_dep : ∀ {p : PV} {d : PyData}, toD p = some d → d.depth = dep p
  | .non, _, h => by simp [toD] at h; subst h; simp [PyData.depth, dep]
  | .bl _, _, h => by simp [toD] at h; subst h; simp [PyData.depth, dep]
  | .int _, _, h => by simp [toD] at h; subst h; simp [PyData.depth, dep]
  | .str _, _, h => by simp [toD] at h; subst h; simp [PyData.depth, dep]
  | .tup _ xs, _, h => by
    simp only [toD, Option.map_eq_some_iff] at h
    obtain ⟨ds, e, rfl⟩ := h
    simp only [PyData.depth, dep, toDs_dep e]
  | .lst xs, _, h => by
    simp only [toD, Option.map_eq_some_iff] at h
    obtain ⟨ds, e, rfl⟩ := h
    simp only [PyData.depth, dep, toDs_dep e]
  | .scr xs, _, h => by
    simp only [toD, Option.map_eq_some_iff] at h
    obtain ⟨ds, e, rfl⟩ := h
    simp only [PyData.depth, dep, toDs_dep e]
  | .dct _ _, _, h => by simp [toD] at h
  | .loc _, _, h => by simp [toD] at h
  | .ty _, _, h => by simp [toD] at h
  | .ob, _, h => by simp [toD] at h
theorem toDs_dep : ∀ {xs : List PV} {ds : List PyData}, toDs xs = some ds → PyData.depthAll ds = deps xs
  | [], _, h => by simp [toDs] at h; subst h; simp [PyData.depthAll, deps]
  | x :: xs, _, h => by
    simp only [toDs] at h
    split at h
    · rename_i d ds e1 e2
      cases h
      simp only [PyData.depthAll, deps, toD_dep e1, toDs_dep e2]
    · cases h
end
section
variable {K : PySem.W.Frag} {I B : List Addr} {H : Hp}
mutual
theorem RV.dp : ∀ {p : PV} {v : V} {d : PyData}, RV K B I H v p → toD p = some d → Dp K H v d
  | .non, _, _, r, h => by simp [toD] at h; subst h; cases r; exact .non
  | .bl _, _, _, r, h => by simp [toD] at h; subst h; cases r; exact .bl _
  | .int _, _, _, r, h => by simp [toD] at h; subst h; cases r; exact .int _
  | .str _, _, _, r, h => by simp [toD] at h; subst h; cases r; exact .str _
  | .tup _ xs, _, _, r, h => by
    simp only [toD, Option.map_eq_some_iff] at h
    obtain ⟨ds, e, rfl⟩ := h
    cases r with
    | tup q rs => exact .tup q.sq (RVs.dp rs e)
  | .lst xs, _, _, r, h => by
    simp only [toD, Option.map_eq_some_iff] at h
    obtain ⟨ds, e, rfl⟩ := h
    cases r with
    | lst q _ _ rs => exact .lst (.inl (.inl q)) (RVs.dp rs e)
  | .scr xs, _, _, r, h => by
    simp only [toD, Option.map_eq_some_iff] at h
    obtain ⟨ds, e, rfl⟩ := h
    cases r with
    | scr q rs => exact .lst q.sq (RVs.dp rs e)
  | .dct _ _, _, _, _, h => by simp [toD] at h
  | .loc _, _, _, _, h => by simp [toD] at h
  | .ty _, _, _, _, h => by simp [toD] at h
  | .ob, _, _, _, h => by simp [toD] at h
theorem RVs.dp : ∀ {xs : List PV} {vs : List V} {ds : List PyData}, RVs K B I H vs xs → toDs xs = some ds → DpAll K H vs ds
  | [], _, _, r, h => by simp [toDs] at h; subst h; cases r; exact .nil
  | x :: xs, _, _, r, h => by
    simp only [toDs] at h
    split at h
    · rename_i d ds e1 e2
      cases h
      cases r with
      | cons r rs => exact .cons (RV.dp r e1) (RVs.dp rs e2)
    · cases h
end
theorem RT.dp {p : PV} {v : V} {d : PyData} (r : RT K B I H v p) (h : toD p = some d) : Dp K H v d := by
  rcases r with r | ⟨a, vs, xs, rfl, rfl, q, rs⟩ | ⟨a, o, vs, ks, xs, rfl, rfl, q, d, rs⟩ | ⟨a, Ca, dx, ws, rfl, rfl, q, oc⟩
  rotate_right
  · simp [toD] at h
  rotate_right
  · simp [toD] at h
  · exact r.dp h
  · simp only [toD, Option.map_eq_some_iff] at h
    obtain ⟨ds, e, rfl⟩ := h
    exact .lst (.inl (.inl q)) (rs.dp e)
end
/-! ### dicts -/
def keyK : PV → Option Key
  | .int i => some (.inl i)
  | .str x => some (.inr x)
  | _ => none
def keysK : List PV → Option (List Key)
  | [] => some []
  | x :: xs => match keyK x, keysK xs with
    | some k, some ks => some (k :: ks)
    | _, _ => none
def keyT : PV → Option (List Key)
  | .tup false xs => keysK xs
  | _ => none
/-- where a key stands: none is no such kind of key, some none is no such key -/
def DK.ix : DK → PV → Option (Option Nat)
  | .k ks, p => (keyK p).map fun κ => ks.findIdx? fun k => decide (k = κ)
  | .t ks, p => (keyT p).map fun κ => ks.findIdx? fun k => decide (k = κ)
def DK.get (ks : DK) (xs : List PV) (p : PV) : Option (Option PV) := (ks.ix p).map fun o => o.bind fun i => xs[i]?
def DK.put : DK → List PV → PV → PV → Option (DK × List PV)
  | .k ks, xs, p, v => (keyK p).map fun κ => if (ks.any fun k => decide (k = κ)) = true then (.k ks, List.zipWith (fun k x => if k = κ then v else x) ks xs) else (.k (ks ++ [κ]), xs ++ [v])
  | .t ks, xs, p, v => (keyT p).map fun κ => if (ks.any fun k => decide (k = κ)) = true then (.t ks, List.zipWith (fun k x => if k = κ then v else x) ks xs) else (.t (ks ++ [κ]), xs ++ [v])
def DK.keys : DK → List PV
  | .k ks => ks.map keyP
  | .t ks => ks.map fun k => .tup false (k.map keyP)
theorem valV_ix {κ : Type} [DecidableEq κ] (k : κ) : ∀ es : List (κ × V), valV es k = ((es.map (·.1)).findIdx? fun a => decide (a = k)).bind fun i => (es.map (·.2))[i]?
  | [] => rfl
  | (k', v) :: r => by
    have ih := valV_ix k r
    unfold valV at ih ⊢
    by_cases h : k' = k
    · subst h
      simp [List.find?, List.findIdx?_cons]
    · simp only [List.find?, decide_eq_false h, List.map_cons, List.findIdx?_cons, Bool.false_eq_true, if_false]
      rw [ih]
      cases List.findIdx? (fun x => decide (x = k)) (r.map (·.1)) <;> simp
theorem putK_ix {κ : Type} [DecidableEq κ] (k : κ) (v : V) : ∀ es : List (κ × V), (putK es k v).map (·.1) = (if ((es.map (·.1)).any fun a => decide (a = k)) = true then es.map (·.1) else es.map (·.1) ++ [k]) ∧ (putK es k v).map (·.2) = (if ((es.map (·.1)).any fun a => decide (a = k)) = true then List.zipWith (fun a x => if a = k then v else x) (es.map (·.1)) (es.map (·.2)) else es.map (·.2) ++ [v]) := by
  intro es
  unfold putK
  have hany : ((es.map (·.1)).any fun a => decide (a = k)) = (es.any fun kv => decide (kv.1 = k)) := by rw [List.any_map]; rfl
  rw [hany]
  by_cases h : (es.any fun kv => decide (kv.1 = k)) = true
  · rw [if_pos h, if_pos h, if_pos h]
    constructor
    · rw [List.map_map]
      refine List.map_congr_left fun e _ => ?_
      simp only [Function.comp]
      split <;> rfl
    · clear h hany
      induction es with
      | nil => rfl
      | cons e r ih =>
        simp only [List.map_cons, List.zipWith_cons_cons, ih]
        congr 1
        split <;> rfl
  · rw [if_neg h, if_neg h, if_neg h]
    simp
theorem keyP_kV {K : PySem.W.Frag} {B I : List Addr} {H : Hp} {v : V} {p : PV} {k : Key} (r : RV K B I H v p) (e : keyK p = some k) : v = kV k := by
  cases r <;> simp [keyK] at e <;> subst e <;> rfl
theorem keysP_kV {K : PySem.W.Frag} {B I : List Addr} {H : Hp} : ∀ {vs : List V} {ps : List PV} {ks : List Key}, RVs K B I H vs ps → keysK ps = some ks → vs = ks.map kV
  | _, _, _, .nil, e => by simp [keysK] at e; subst e; rfl
  | _, _, _, .cons r rs, e => by
    simp only [keysK] at e
    split at e
    · rename_i a as e1 e2
      cases e
      rw [keysP_kV rs e2, keyP_kV r e1]; rfl
    · cases e
theorem keyT_tup {K : PySem.W.Frag} {B I : List Addr} {H : Hp} {v : V} {p : PV} {k : List Key} (r : RV K B I H v p) (e : keyT p = some k) : ∃ b, v = .ref b ∧ H b = some (.tup (k.map kV)) := by
  cases r with
  | tup h rs =>
    rename_i a g vs xs
    cases g with
    | true => simp [keyT] at e
    | false =>
      have e : keysK xs = some k := e
      have h : H a = some (.tup vs) := h
      rw [keysP_kV rs e] at h
      exact ⟨_, rfl, h⟩
  | _ => simp [keyT] at e
/-- a dict is asked -/
theorem dget_of {K : PySem.W.Frag} {B I : List Addr} {H : Hp} {a : Addr} {o : HO} {vs : List V} {ks : DK} {y : V} {p : PV} {oi : Option Nat} (hd : DRd H a o) (hk : DKs o ks vs) (r : RV K B I H y p) (e : ks.ix p = some oi) : DGet H a y (oi.bind fun i => vs[i]?) := by
  rcases hk with ⟨es, rfl, rfl, rfl⟩ | ⟨es, rfl, rfl, rfl⟩
  · obtain ⟨k, hk, rfl⟩ := Option.map_eq_some_iff.mp e
    exact .inl ⟨es, k, hd.elim .inl fun ⟨_, fo, _, h⟩ => .inr ⟨fo, h⟩, keyP_kV r hk, (valV_ix k es).symm⟩
  · obtain ⟨k, hk, rfl⟩ := Option.map_eq_some_iff.mp e
    obtain ⟨b, hb, hb2⟩ := keyT_tup r hk
    refine .inr ⟨es, k, b, hd.elim .inl fun ⟨_, _, h, _⟩ => (by cases h), hb, hb2, (valV_ix k es).symm⟩
/-! ### what the operations give -/
def lim (n : Nat) (p : PV) : Option PV := if n ≤ sizeLine then some p else none
/-- == -/
def eqL : PV → PV → Option Bool
  | .lst (_ :: _), .lst [] => some false
  | _, _ => none
def eqS (p q : PV) : Option Bool := match toD p, toD q with
  | some d, some e => if min (dep p) (dep q) ≤ 60 then some (PyData.eqv d e) else none
  | _, _ => eqL p q
def binS : Operator → PV → PV → Option PV
  | .Add, .int i, .int j => some (.int (i + j))
  | .Add, .str x, .str y => lim (x.length + y.length) (.str (x ++ y))
  | .Add, .lst xs, .lst ys => lim (xs.length + ys.length) (.lst (xs ++ ys))
  | .Add, .tup g xs, .tup g' ys => lim (xs.length + ys.length) (.tup (if xs.isEmpty then g' else if ys.isEmpty then g else false) (xs ++ ys))
  | .Sub, .int i, .int j => some (.int (i - j))
  | .Mult, .int i, .int j => if i.natAbs.log2 + j.natAbs.log2 < 1000000 then some (.int (i * j)) else none
  | .Mult, .tup g xs, .int k => if k = 1 then some (.tup g xs) else if 2 ≤ k ∧ k ≤ 1000 ∧ xs ≠ [] ∧ xs.length ≤ 1000 then some (.tup false (List.replicate k.toNat xs).flatten) else none
  | .FloorDiv, .int i, .int j => if 0 < j ∧ j.natAbs.log2 < 9000 then some (.int (i / j)) else none
  | .Mod, .int i, .int j => if 0 < j then some (.int (i % j)) else none
  | .Pow, .int i, .int j => if 0 ≤ j ∧ (Builtin.Int.intBits i : Int) * j ≤ 2 ^ 27 then some (.int (i ^ j.toNat)) else none
  | _, _, _ => none
def ltS : PV → PV → Option Bool
  | .int i, .int j => some (decide (i < j))
  | .str x, .str y => some (decide (x.cps.toList < y.cps.toList))
  | _, _ => none
def inS (p : PV) : PV → Option Bool
  | .lst xs => match toD p, toDs xs with
    | some d, some ds => if min (dep p) (deps xs) ≤ 60 then some (ds.any fun y => PyData.eqv y d) else none
    | _, _ => none
  | .tup _ xs => match toD p, toDs xs with
    | some d, some ds => if min (dep p) (deps xs) ≤ 60 then some (ds.any fun y => PyData.eqv y d) else none
    | _, _ => none
  | .dct ks xs => (ks.get xs p).map (·.isSome)
  | .str y => match p with
    | .str x => some (!(Builtin.Str.occurrences y x 0 y.length 1).isEmpty)
    | _ => none
  | _ => none
def isS : PV → PV → Option Bool
  | .non, .non => some true
  | _, .non => some false
  | .bl a, .bl b => some (a == b)
  | _, _ => none
def cmpS : CmpOp → PV → PV → Option Bool
  | .Eq, p, q => eqS p q
  | .NotEq, p, q => (eqS p q).map not
  | .Lt, p, q => ltS p q
  | .Gt, p, q => ltS q p
  | .LtE, p, q => (ltS q p).map not
  | .GtE, p, q => (ltS p q).map not
  | .In, p, q => inS p q
  | .NotIn, p, q => (inS p q).map not
  | .Is, p, q => isS p q
  | .IsNot, p, q => (isS p q).map not
end Sn
namespace Sn
open PySem PySem.Spec PyProof.Rows L2
theorem tuple_mul1 (l : Addr) (items : Array Value) (n : Nat) (dd : Option Addr) (sl : Array (Option Value)) (u : Tok) :
    Meets (Builtin.«tuple.__mul__» ⟨[.ref l, .int 1 u], []⟩) (fun _ R s => s.heap.get? l = some { cls := .type "tuple", dict := dd, data := .seq items n, slots := sl } ∧ R (.ok (.ret (Value.ref l))) s) :=
  .of_wp fun prog w A R s h => by
    obtain ⟨hp, g, d, tk, os⟩ := s
    obtain ⟨hl, h⟩ := h
    have f1 := AutoSeq1.idx_int
    have c0 : (decide ((1 : Int) < -(2 ^ 63)) || decide ((1 : Int) ≥ 2 ^ 63)) = false := by decide
    have c1 : (items.isEmpty || (1 : Int) == 1) = true := by simp
    wp_walk using wpAny_loadPart' hl
    repeat (first
      | (refine wpAny_ite_false (decide_eq_false (by rw [c0]; exact Bool.false_ne_true)) ?_; wp_walk using wpAny_loadPart' hl)
      | (refine wpAny_ite_true (decide_eq_true (by rw [c1])) ?_; wp_walk using wpAny_loadPart' hl))
    exact ⟨_, rfl, h⟩
theorem op_mulT1 {X : Cx} : OpR X (binaryOp .Mult) (fun x y H Q => ∃ l xs, x = .ref l ∧ y = .int 1 ∧ SqT X.K H l xs ∧ Q (.ref l) H) := by
  intro pins s σ H x y v u Q I rx ry h
  obtain ⟨l, xs, rfl, rfl, hT, q⟩ := h
  cases rx
  obtain ⟨t, rfl⟩ := ry
  obtain ⟨its, r, ⟨⟨cls, dd, data, sl⟩, ho, hc, n, hd⟩, hs⟩ := I.tuple hT
  simp only at hc hd
  subst hc hd
  exact wpAny_binaryOp_repeat_ref (T := "tuple") (U := "int") (by decide) ⟨_, ho, rfl⟩ (fun s' => typeIs_int s' 1 t) noFill_tuple_mul F.fills_int_mul F.slot_int_rmul repeat_tuple F.slot_int_index.lookup
    (call_meets F.slot_int_rmul (typeIs_int s 1 t) F.entry_int_rmul (F.args_int_rmul_2 _ _) (int_rmul_tuple 1 t l its.toArray n dd sl)
      ⟨ho, rfl, ⟨_, ho, rfl⟩, call_meets F.slot_tuple_mul ⟨_, ho, rfl⟩ F.entry_tuple_mul (F.args_tuple_mul_2 _ _) (tuple_mul1 l its.toArray n dd sl t) ⟨ho, ⟨.ref l, H, I, rfl, q⟩⟩⟩)
end Sn
namespace Sn
open PySem PySem.Spec PyProof.Rows L2
abbrev KF (K : PySem.W.Frag) (H : Hp) : Prop := ∀ a, H a ≠ none → K.lookup a = none
section
variable {X : Cx} {pins : List (Addr × Obj)} {σ : L2.St} {H : Hp} {s : Shared} {Q : VK}
theorem Inv.kfree (I : L2.Inv X pins σ H s) : KF X.K H := fun a h => by
  cases e : X.K.lookup a with
  | none => rfl
  | some o => exact absurd (I.bs a o (I.ok.mod.kin a o e)).2 h
theorem ep_kf {u : Value} {s' : Shared} (h : EP X pins σ (fun v H' => KF X.K H' → Q v H') u s') : EP X pins σ Q u s' := by
  obtain ⟨v, H', I, r, q⟩ := h
  exact ⟨v, H', I, r, q (Inv.kfree I)⟩
theorem opr_kf {f : Value → Value → Sem Value} {r r' : R2} (h : OpR X f r) (imp : ∀ x y H Q, r' x y H Q → r x y H (fun v H' => KF X.K H' → Q v H')) : OpR X f r' := fun pins s σ H x y v u Q I rx ry q =>
  thn (h pins s σ H x y v u _ I rx ry (imp _ _ _ _ q)) fun _ _ => ep_kf
end
/-- a two-place operation on values read through -/
def r2 (K : PySem.W.Frag) (g : PV → PV → Option PV) : R2 := fun x y H Q => ∃ I B m p q r, RM K B I H m ∧ RT K B I H x p ∧ RT K B I H y q ∧ g p q = some r ∧
  ∀ v H', Same H H' → KF K H' → RV K B I H' v r → Q v H'
theorem upd_same_of {H : Hp} {p : Addr} {o : HO} (h : H p = none) : Same H (upd H p o) := fun b x e => by
  rw [upd_ne (ne_of_none e h)]; exact e
section
variable {K : PySem.W.Frag} {I B : List Addr} {H H' : Hp} {m : Mu}
theorem RVs.same (s : Same H H') (h : RM K B I H m) {vs : List V} {ps : List PV} (r : RVs K B I H vs ps) : RVs K B I H' vs ps := r.nx (Nx.same I s) h
theorem RV.same (s : Same H H') (h : RM K B I H m) {v : V} {p : PV} (r : RV K B I H v p) : RV K B I H' v p := r.nx (Nx.same I s) h
theorem RM.new (h : RM K B I H m) {p : Addr} (hp : H p = none) : p ∉ I := fun hm => h.tr hm hp
theorem RM.newB (h : RM K B I H m) {p : Addr} (hp : H p = none) : p ∉ B := fun hm => h.trB p hm hp
/-- a new list, a new tuple -/
theorem RV.newL (h : RM K B I H m) {p : Addr} (hp : H p = none) {vs : List V} {ps : List PV} (r : RVs K B I H vs ps) : RV K B I (upd H p (.lst vs)) (.ref p) (.lst ps) :=
  .lst upd_same (h.new hp) (h.newB hp) (r.same (upd_same_of hp) h)
theorem RV.newT (h : RM K B I H m) {p : Addr} (hp : H p = none) {vs : List V} {ps : List PV} (r : RVs K B I H vs ps) : RV K B I (upd H p (.tup vs)) (.ref p) (.tup false ps) :=
  .tup (g := false) upd_same (r.same (upd_same_of hp) h)
theorem lim_some {n : Nat} {p r : PV} (h : lim n p = some r) : n ≤ sizeLine ∧ p = r := by
  unfold lim at h
  split at h
  · rename_i q; exact ⟨q, Option.some.inj h⟩
  · cases h
end
section
variable {X : Cx}
theorem eqL_some {p q : PV} {b : Bool} (h : eqL p q = some b) : b = false ∧ ∃ x xs, p = .lst (x :: xs) ∧ q = .lst [] := by
  unfold eqL at h
  split at h
  · rename_i x xs
    exact ⟨(Option.some.inj h).symm, x, xs, rfl, rfl⟩
  · cases h
theorem eqS_some {p q : PV} {b : Bool} (h : eqS p q = some b) : (∃ d e, toD p = some d ∧ toD q = some e ∧ min (dep p) (dep q) ≤ 60 ∧ b = PyData.eqv d e) ∨ (b = false ∧ ∃ x xs, p = .lst (x :: xs) ∧ q = .lst []) := by
  unfold eqS at h
  split at h
  · rename_i d e e1 e2
    split at h
    · rename_i hd
      exact .inl ⟨d, e, e1, e2, hd, (Option.some.inj h).symm⟩
    · cases h
  · exact .inr (eqL_some h)
theorem lsts_of {pins : List (Addr × Obj)} {s : Shared} {σ : L2.St} {H : Hp} (I0 : L2.Inv X pins σ H s) {B I : List Addr} {x y : V} {v u : Value} {p : PV} {ps : List PV} (rx : RelV x v) (ry : RelV y u) (r1 : RT X.K B I H x (.lst (p :: ps))) (r2 : RT X.K B I H y (.lst [])) :
    ∃ l b items items2, v = .ref l ∧ u = .ref b ∧ s.heap.IsList l items ∧ s.heap.IsList b items2 ∧ (items.size != items2.size) = true := by
  obtain ⟨a, vs, rfl, ha, rvs⟩ := r1.lst
  obtain ⟨c, ws, rfl, hc, rws⟩ := r2.lst
  cases rx
  cases ry
  obtain ⟨i1, q1, l1, _⟩ := I0.list (.inl (.inl ha))
  obtain ⟨i2, q2, l2, _⟩ := I0.list (.inl (.inl hc))
  refine ⟨a, c, _, _, rfl, rfl, l1.isList, l2.isList, ?_⟩
  have h1 := rvs.length
  have h2 := rws.length
  have h3 := Vals.length q1
  have h4 := Vals.length q2
  simp only [List.length_cons, List.length_nil] at h1 h2
  simp only [List.size_toArray, bne_iff_ne, ne_eq]
  omega
theorem map_of {f : Option Bool} {r : Bool} (h : f.map not = some r) : ∃ b, f = some b ∧ r = !b := by
  obtain ⟨b, e, rfl⟩ := Option.map_eq_some_iff.mp h
  exact ⟨b, e, rfl⟩
/-- == and != of data -/
theorem op_eqP (hu : X.A.units + 64 < cLine) : OpR X (compareOp .Eq) (r2 X.K fun p q => (eqS p q).map .bl) := by
  intro pins s σ H x y v u Q I rx ry h
  obtain ⟨L, B, m, p, q, r, hm, r1, r2, e, k⟩ := h
  obtain ⟨b, eb, rfl⟩ := Option.map_eq_some_iff.mp e
  rcases eqS_some eb with ⟨d, d2, e1, e2, hd, rfl⟩ | ⟨rfl, x0, xs0, rfl, rfl⟩
  case inr =>
    obtain ⟨l, b, i1, i2, rfl, rfl, l1, l2, hz⟩ := lsts_of I rx ry r1 r2
    exact SeqAt.RcAt.lists_lengths l1 l2 hz (by omega) _ _ _ _ ⟨.bl _, H, I, rfl, k _ _ (Same.refl H) (Inv.kfree I) (.bl _)⟩
  obtain ⟨as, w1⟩ := Dp.reads I d x v (r1.dp e1) rx
  obtain ⟨bs, w2⟩ := Dp.reads I d2 y u (r2.dp e2) ry
  refine SeqAt.eq_plain w1 w2 (toD_plain e1) (toD_plain e2) ?_ ⟨.bl _, H, I, rfl, k _ _ (Same.refl H) (Inv.kfree I) (.bl _)⟩
  rw [toD_dep e1, toD_dep e2]
  omega
theorem op_neP (hu : X.A.units + 64 < cLine) : OpR X (compareOp .NotEq) (r2 X.K fun p q => ((eqS p q).map not).map .bl) := by
  intro pins s σ H x y v u Q I rx ry h
  obtain ⟨L, B, m, p, q, r, hm, r1, r2, e, k⟩ := h
  obtain ⟨b, eb0, rfl⟩ := Option.map_eq_some_iff.mp e
  obtain ⟨b, eb, rfl⟩ := map_of eb0
  rcases eqS_some eb with ⟨d, d2, e1, e2, hd, rfl⟩ | ⟨rfl, x0, xs0, rfl, rfl⟩
  case inr =>
    obtain ⟨l, b, i1, i2, rfl, rfl, l1, l2, hz⟩ := lsts_of I rx ry r1 r2
    exact SeqAt.RcNeAt.lists_lengths l1 l2 hz (by omega) _ _ _ _ ⟨.bl _, H, I, rfl, k _ _ (Same.refl H) (Inv.kfree I) (.bl _)⟩
  obtain ⟨as, w1⟩ := Dp.reads I d x v (r1.dp e1) rx
  obtain ⟨bs, w2⟩ := Dp.reads I d2 y u (r2.dp e2) ry
  refine SeqAt.ne_plain w1 w2 (toD_plain e1) (toD_plain e2) ?_ ⟨.bl _, H, I, rfl, k _ _ (Same.refl H) (Inv.kfree I) (.bl _)⟩
  rw [toD_dep e1, toD_dep e2]
  omega
theorem inS_some {p q : PV} {b : Bool} (h : inS p q = some b) :
    (∃ xs d ds, (q = .lst xs ∨ ∃ g, q = .tup g xs) ∧ toD p = some d ∧ toDs xs = some ds ∧ min (dep p) (deps xs) ≤ 60 ∧ b = ds.any fun y => PyData.eqv y d) ∨
      (∃ x y, p = .str x ∧ q = .str y ∧ b = !(Builtin.Str.occurrences y x 0 y.length 1).isEmpty) ∨ ∃ ks xs oi, q = .dct ks xs ∧ ks.ix p = some oi ∧ b = (oi.bind fun i => xs[i]?).isSome := by
  cases q with
  | lst xs =>
    simp only [inS] at h
    split at h
    · rename_i d ds e1 e2
      split at h
      · rename_i hd
        exact .inl ⟨xs, d, ds, .inl rfl, e1, e2, hd, (Option.some.inj h).symm⟩
      · cases h
    · cases h
  | tup g xs =>
    simp only [inS] at h
    split at h
    · rename_i d ds e1 e2
      split at h
      · rename_i hd
        exact .inl ⟨xs, d, ds, .inr ⟨_, rfl⟩, e1, e2, hd, (Option.some.inj h).symm⟩
      · cases h
    · cases h
  | str z =>
    cases p with
    | str x' =>
      simp only [inS] at h
      exact .inr (.inl ⟨_, _, rfl, rfl, (Option.some.inj h).symm⟩)
    | _ => simp [inS] at h
  | dct ks xs =>
    simp only [inS, DK.get, Option.map_map, Option.map_eq_some_iff] at h
    obtain ⟨oi, h1, h2⟩ := h
    exact .inr (.inr ⟨ks, xs, oi, rfl, h1, h2.symm⟩)
  | _ => simp [inS] at h
theorem RT.key {K : PySem.W.Frag} {B I : List Addr} {H : Hp} {v : V} {p : PV} {ks : DK} {oi : Option Nat} (r : RT K B I H v p) (e : ks.ix p = some oi) : RV K B I H v p := by
  rcases r with r | ⟨a, vs, ys, e1, e2, h, r⟩ | ⟨a, o, vs, ks', ys, e1, e2, h, d, r⟩ | ⟨a, Ca, dx, ws, e1, e2, h, oc⟩
  · exact r
  · subst e2
    cases ks <;> simp [DK.ix, keyK, keyT] at e
  · subst e2
    cases ks <;> simp [DK.ix, keyK, keyT] at e
  · subst e2
    cases ks <;> simp [DK.ix, keyK, keyT] at e
theorem isSome_rvs {K : PySem.W.Frag} {B I : List Addr} {H : Hp} {vs : List V} {xs : List PV} (r : RVs K B I H vs xs) {oi : Option Nat} : (oi.bind fun i => vs[i]?).isSome = (oi.bind fun i => xs[i]?).isSome := by
  cases oi with
  | none => rfl
  | some i =>
    show (vs[i]?).isSome = (xs[i]?).isSome
    have hl := r.length
    by_cases h : i < vs.length
    · rw [List.getElem?_eq_getElem h, List.getElem?_eq_getElem (by omega)]; rfl
    · rw [List.getElem?_eq_none (by omega), List.getElem?_eq_none (by omega)]; rfl
/-- in, not in -/
theorem op_inP (hu : X.A.units + 64 < cLine) : OpR X (compareOp .In) (r2 X.K fun p q => (inS p q).map .bl) := by
  intro pins s σ H x y v u Q I rx ry h
  obtain ⟨L, B, m, p, q, r, hm, r1, r2, e, k⟩ := h
  obtain ⟨b, eb, rfl⟩ := Option.map_eq_some_iff.mp e
  rcases inS_some eb with ⟨xs, d, ds, hq, e1, e2, hd, rfl⟩ | ⟨x', z, rfl, rfl, rfl⟩ | ⟨ks, xs, oi, rfl, h1, rfl⟩
  · obtain ⟨as, w1⟩ := Dp.reads I d x v (r1.dp e1) rx
    have hd' : X.A.units + 1 + min (PyData.depthAll ds) d.depth < cLine := by
      rw [toD_dep e1, toDs_dep e2]
      omega
    rcases hq with rfl | ⟨g, rfl⟩
    · obtain ⟨bs, w2⟩ := Dp.reads I (.list ds) y u (r2.dp (by simp [toD, e2])) ry
      exact SeqAt.in_list_data w2 w1 (toDs_plain e2) (toD_plain e1) hd' ⟨.bl _, H, I, rfl, k _ _ (Same.refl H) (Inv.kfree I) (.bl _)⟩
    · obtain ⟨bs, w2⟩ := Dp.reads I (.tuple ds) y u (r2.dp (by simp [toD, e2])) ry
      exact SeqAt.in_tuple_data w2 w1 (toDs_plain e2) (toD_plain e1) hd' ⟨.bl _, H, I, rfl, k _ _ (Same.refl H) (Inv.kfree I) (.bl _)⟩
  · obtain rfl := r1.str
    obtain rfl := r2.str
    exact op_in_str pins s σ H _ _ v u Q I rx ry ⟨_, _, rfl, rfl, k _ _ (Same.refl H) (Inv.kfree I) (.bl _)⟩
  · obtain ⟨a, o, vs, rfl, hdr, hdk, rvs⟩ := r2.dct
    cases ry
    refine d_in (by omega) I (dget_of hdr hdk (r1.key h1) h1) rx fun s3 I3 => ⟨.bl _, H, I3, rfl, ?_⟩
    rw [isSome_rvs rvs]
    exact k _ _ (Same.refl H) (Inv.kfree I) (.bl _)
theorem op_niP (hu : X.A.units + 64 < cLine) : OpR X (compareOp .NotIn) (r2 X.K fun p q => ((inS p q).map not).map .bl) := by
  intro pins s σ H x y v u Q I rx ry h
  obtain ⟨L, B, m, p, q, r, hm, r1, r2, e, k⟩ := h
  obtain ⟨b, eb0, rfl⟩ := Option.map_eq_some_iff.mp e
  obtain ⟨b, eb, rfl⟩ := map_of eb0
  rcases inS_some eb with ⟨xs, d, ds, hq, e1, e2, hd, rfl⟩ | ⟨x', z, rfl, rfl, rfl⟩ | ⟨ks, xs, oi, rfl, h1, rfl⟩
  · obtain ⟨as, w1⟩ := Dp.reads I d x v (r1.dp e1) rx
    have hd' : X.A.units + 1 + min (PyData.depthAll ds) d.depth < cLine := by
      rw [toD_dep e1, toDs_dep e2]
      omega
    rcases hq with rfl | ⟨g, rfl⟩
    · obtain ⟨bs, w2⟩ := Dp.reads I (.list ds) y u (r2.dp (by simp [toD, e2])) ry
      exact SeqAt.notIn_list_data w2 w1 (toDs_plain e2) (toD_plain e1) hd' ⟨.bl _, H, I, rfl, k _ _ (Same.refl H) (Inv.kfree I) (.bl _)⟩
    · obtain ⟨bs, w2⟩ := Dp.reads I (.tuple ds) y u (r2.dp (by simp [toD, e2])) ry
      exact SeqAt.notIn_tuple_data w2 w1 (toDs_plain e2) (toD_plain e1) hd' ⟨.bl _, H, I, rfl, k _ _ (Same.refl H) (Inv.kfree I) (.bl _)⟩
  · obtain rfl := r1.str
    obtain rfl := r2.str
    exact op_notin_str pins s σ H _ _ v u Q I rx ry ⟨_, _, rfl, rfl, k _ _ (Same.refl H) (Inv.kfree I) (.bl _)⟩
  · obtain ⟨a, o, vs, rfl, hdr, hdk, rvs⟩ := r2.dct
    cases ry
    refine d_notIn (by omega) I (dget_of hdr hdk (r1.key h1) h1) rx fun s3 I3 => ⟨.bl _, H, I3, rfl, ?_⟩
    rw [isSome_rvs rvs]
    exact k _ _ (Same.refl H) (Inv.kfree I) (.bl _)
/-- < <= > >= -/
theorem op_ordP {o : CmpOp} (f : PV → PV → Option Bool) (hi : ∀ i j r, f (.int i) (.int j) = some r → OpR X (compareOp o) (fun x y H Q => x = .int i ∧ y = .int j ∧ Q (.bl r) H))
    (hs : ∀ i j r, f (.str i) (.str j) = some r → OpR X (compareOp o) (fun x y H Q => x = .str i ∧ y = .str j ∧ Q (.bl r) H))
    (ho : ∀ p q r, f p q = some r → (∃ i j, p = .int i ∧ q = .int j) ∨ ∃ i j, p = .str i ∧ q = .str j) : OpR X (compareOp o) (r2 X.K fun p q => (f p q).map .bl) := by
  intro pins s σ H x y v u Q I rx ry h
  obtain ⟨L, B, m, p, q, r, hm, r1, r2, e, k⟩ := h
  obtain ⟨b, eb, rfl⟩ := Option.map_eq_some_iff.mp e
  rcases ho _ _ _ eb with ⟨i, j, rfl, rfl⟩ | ⟨i, j, rfl, rfl⟩
  · obtain rfl := r1.int
    obtain rfl := r2.int
    exact hi i j b eb pins s σ H _ _ v u Q I rx ry ⟨rfl, rfl, k _ _ (Same.refl H) (Inv.kfree I) (.bl _)⟩
  · obtain rfl := r1.str
    obtain rfl := r2.str
    exact hs i j b eb pins s σ H _ _ v u Q I rx ry ⟨rfl, rfl, k _ _ (Same.refl H) (Inv.kfree I) (.bl _)⟩
theorem ltS_cases {p q : PV} {r : Bool} (h : ltS p q = some r) : (∃ i j, p = .int i ∧ q = .int j) ∨ ∃ i j, p = .str i ∧ q = .str j := by
  unfold ltS at h
  split at h
  · exact .inl ⟨_, _, rfl, rfl⟩
  · exact .inr ⟨_, _, rfl, rfl⟩
  · cases h
theorem ltS_cases' {p q : PV} {r : Bool} (h : ltS q p = some r) : (∃ i j, p = .int i ∧ q = .int j) ∨ ∃ i j, p = .str i ∧ q = .str j := by
  rcases ltS_cases h with ⟨i, j, e1, e2⟩ | ⟨i, j, e1, e2⟩
  · exact .inl ⟨_, _, e2, e1⟩
  · exact .inr ⟨_, _, e2, e1⟩
theorem op_ltP : OpR X (compareOp .Lt) (r2 X.K fun p q => (ltS p q).map .bl) := by
  refine op_ordP ltS (fun i j r e => ?_) (fun i j r e => ?_) fun p q r h => ltS_cases h
  · simp only [ltS, Option.some.injEq] at e; subst e
    intro pins s σ H x y v u Q I rx ry h
    exact op_lt pins s σ H x y v u Q I rx ry ⟨_, _, h.1, h.2.1, h.2.2⟩
  · simp only [ltS, Option.some.injEq] at e; subst e
    intro pins s σ H x y v u Q I rx ry h
    exact op_lt_str pins s σ H x y v u Q I rx ry ⟨_, _, h.1, h.2.1, h.2.2⟩
theorem op_gtP : OpR X (compareOp .Gt) (r2 X.K fun p q => (ltS q p).map .bl) := by
  refine op_ordP (fun p q => ltS q p) (fun i j r e => ?_) (fun i j r e => ?_) fun p q r h => ltS_cases' h
  · simp only [ltS, Option.some.injEq] at e; subst e
    intro pins s σ H x y v u Q I rx ry h
    exact op_gt pins s σ H x y v u Q I rx ry ⟨_, _, h.1, h.2.1, h.2.2⟩
  · simp only [ltS, Option.some.injEq] at e; subst e
    intro pins s σ H x y v u Q I rx ry h
    exact op_gt_str pins s σ H x y v u Q I rx ry ⟨_, _, h.1, h.2.1, h.2.2⟩
theorem not_lt_int (i j : Int) : (!decide (j < i)) = decide (i ≤ j) := by
  by_cases h : i ≤ j
  · simp [h, show ¬ j < i by omega]
  · simp [h, show j < i by omega]
theorem op_leP : OpR X (compareOp .LtE) (r2 X.K fun p q => ((ltS q p).map not).map .bl) := by
  refine op_ordP (fun p q => (ltS q p).map not) (fun i j r e => ?_) (fun i j r e => ?_) fun p q r h => ?_
  · simp only [ltS, Option.map_some, Option.some.injEq, not_lt_int] at e; subst e
    intro pins s σ H x y v u Q I rx ry h
    exact op_le pins s σ H x y v u Q I rx ry ⟨_, _, h.1, h.2.1, h.2.2⟩
  · simp only [ltS, Option.map_some, Option.some.injEq] at e; subst e
    intro pins s σ H x y v u Q I rx ry h
    exact op_le_str pins s σ H x y v u Q I rx ry ⟨_, _, h.1, h.2.1, h.2.2⟩
  · obtain ⟨b, e, _⟩ := map_of h
    exact ltS_cases' e
theorem op_geP : OpR X (compareOp .GtE) (r2 X.K fun p q => ((ltS p q).map not).map .bl) := by
  refine op_ordP (fun p q => (ltS p q).map not) (fun i j r e => ?_) (fun i j r e => ?_) fun p q r h => ?_
  · simp only [ltS, Option.map_some, Option.some.injEq, not_lt_int] at e; subst e
    intro pins s σ H x y v u Q I rx ry h
    exact op_ge pins s σ H x y v u Q I rx ry ⟨_, _, h.1, h.2.1, h.2.2⟩
  · simp only [ltS, Option.map_some, Option.some.injEq] at e; subst e
    intro pins s σ H x y v u Q I rx ry h
    exact op_ge_str pins s σ H x y v u Q I rx ry ⟨_, _, h.1, h.2.1, h.2.2⟩
  · obtain ⟨b, e, _⟩ := map_of h
    exact ltS_cases e
theorem op_isP : OpR X (compareOp .Is) (r2 X.K fun p q => (isS p q).map .bl) := by
  intro pins s σ H x y v u Q I rx ry h
  obtain ⟨L, B, m, p, q, r, hm, r1, r2, e, k⟩ := h
  obtain ⟨b, eb, rfl⟩ := Option.map_eq_some_iff.mp e
  have fin := k _ _ (Same.refl H) (Inv.kfree I) (.bl b)
  unfold isS at eb
  split at eb
  · obtain rfl := r1.non
    obtain rfl := r2.non
    cases eb
    exact op_isN pins s σ H _ _ v u Q I rx ry ⟨rfl, by simpa using fin⟩
  · rename_i hp
    obtain rfl := r2.non
    cases eb
    refine op_isN pins s σ H _ _ v u Q I rx ry ⟨rfl, ?_⟩
    rw [show decide (x = V.non) = false from decide_eq_false fun e => ?_]
    · exact fin
    · subst e
      rcases r1 with r1 | ⟨a, vs, xs, e, _⟩ | ⟨a, o, vs, ks, xs, e, _⟩ | ⟨a, Ca, dx, ws, e, _⟩
      · cases r1; exact hp rfl
      · cases e
      · cases e
      · cases e
  · obtain rfl := r1.bl
    obtain rfl := r2.bl
    cases eb
    exact op_is_bl pins s σ H _ _ v u Q I rx ry ⟨_, _, rfl, rfl, by rw [Bool.beq_eq_decide_eq] at fin; exact fin⟩
  · cases eb
theorem op_insP : OpR X (compareOp .IsNot) (r2 X.K fun p q => ((isS p q).map not).map .bl) := by
  intro pins s σ H x y v u Q I rx ry h
  obtain ⟨L, B, m, p, q, r, hm, r1, r2, e, k⟩ := h
  obtain ⟨b0, eb0, rfl⟩ := Option.map_eq_some_iff.mp e
  obtain ⟨b, eb, rfl⟩ := map_of eb0
  have fin := k _ _ (Same.refl H) (Inv.kfree I) (.bl _)
  unfold isS at eb
  split at eb
  · obtain rfl := r1.non
    obtain rfl := r2.non
    cases eb
    exact op_notN pins s σ H _ _ v u Q I rx ry ⟨rfl, by simpa using fin⟩
  · rename_i hp
    obtain rfl := r2.non
    cases eb
    refine op_notN pins s σ H _ _ v u Q I rx ry ⟨rfl, ?_⟩
    rw [show decide (x = V.non) = false from decide_eq_false fun e => ?_]
    · exact fin
    · subst e
      rcases r1 with r1 | ⟨a, vs, xs, e, _⟩ | ⟨a, o, vs, ks, xs, e, _⟩ | ⟨a, Ca, dx, ws, e, _⟩
      · cases r1; exact hp rfl
      · cases e
      · cases e
      · cases e
  · obtain rfl := r1.bl
    obtain rfl := r2.bl
    cases eb
    exact op_isnot_bl pins s σ H _ _ v u Q I rx ry ⟨_, _, rfl, rfl, by rw [Bool.beq_eq_decide_eq] at fin; exact fin⟩
  · cases eb
/-- every comparison -/
theorem op_cmpP (hu : X.A.units + 64 < cLine) : ∀ o : CmpOp, OpR X (compareOp o) (r2 X.K fun p q => (cmpS o p q).map .bl)
  | .Eq => op_eqP hu
  | .NotEq => op_neP hu
  | .Lt => op_ltP
  | .LtE => op_leP
  | .Gt => op_gtP
  | .GtE => op_geP
  | .In => op_inP hu
  | .NotIn => op_niP hu
  | .Is => op_isP
  | .IsNot => op_insP
theorem binS_add {p q r : PV} (h : binS .Add p q = some r) : (∃ i j, p = .int i ∧ q = .int j ∧ r = .int (i + j)) ∨ (∃ x y, p = .str x ∧ q = .str y ∧ x.length + y.length ≤ sizeLine ∧ r = .str (x ++ y)) ∨
    (∃ xs ys, p = .lst xs ∧ q = .lst ys ∧ xs.length + ys.length ≤ sizeLine ∧ r = .lst (xs ++ ys)) ∨ ∃ g g' xs ys, p = .tup g xs ∧ q = .tup g' ys ∧ xs.length + ys.length ≤ sizeLine ∧ r = .tup (if xs.isEmpty then g' else if ys.isEmpty then g else false) (xs ++ ys) := by
  cases p <;> cases q <;> simp only [binS, Option.some.injEq, reduceCtorEq] at h
  · exact .inl ⟨_, _, rfl, rfl, h.symm⟩
  · obtain ⟨a, b⟩ := lim_some h
    exact .inr (.inl ⟨_, _, rfl, rfl, a, b.symm⟩)
  · obtain ⟨a, b⟩ := lim_some h
    exact .inr (.inr (.inr ⟨_, _, _, _, rfl, rfl, a, b.symm⟩))
  · obtain ⟨a, b⟩ := lim_some h
    exact .inr (.inr (.inl ⟨_, _, rfl, rfl, a, b.symm⟩))
theorem isEmpty_no {K : PySem.W.Frag} {B I : List Addr} {H : Hp} {vs : List V} {xs : List PV} (r : RVs K B I H vs xs) (h : vs ≠ []) : xs.isEmpty = false := by
  cases r with
  | nil => exact absurd rfl h
  | cons _ _ => rfl
theorem op_addP : OpR X (binaryOp .Add) (r2 X.K (binS .Add)) := by
  intro pins s σ H x y v u Q I rx ry h
  obtain ⟨L, B, m, p, q, r, hm, r1, r2, e, k⟩ := h
  have kf := Inv.kfree I
  rcases binS_add e with ⟨i, j, rfl, rfl, rfl⟩ | ⟨i, j, rfl, rfl, hz, rfl⟩ | ⟨xs, ys, rfl, rfl, hz, rfl⟩ | ⟨g, g', xs, ys, rfl, rfl, hz, rfl⟩
  · obtain rfl := r1.int
    obtain rfl := r2.int
    exact op_add pins s σ H _ _ v u Q I rx ry ⟨_, _, rfl, rfl, k _ _ (Same.refl H) kf (.int _)⟩
  · obtain rfl := r1.str
    obtain rfl := r2.str
    exact op_add_str pins s σ H _ _ v u Q I rx ry ⟨_, _, rfl, rfl, hz, k _ _ (Same.refl H) kf (.str _)⟩
  · obtain ⟨a, vs, rfl, h1, q1⟩ := r1.lst
    obtain ⟨b, ws, rfl, h2, q2⟩ := r2.lst
    refine thn (op_cat pins s σ H _ _ v u (fun v H' => KF X.K H' → Q v H') I rx ry ⟨a, b, vs, ws, rfl, rfl, h1, h2, by rw [q1.length, q2.length]; exact hz, fun p hp kf' => ?_⟩) fun _ _ => ep_kf
    exact k _ _ (upd_same_of hp) kf' (RV.newL hm hp (q1.append q2))
  · obtain ⟨a, vs, rfl, h1', q1⟩ := r1.tupH
    obtain ⟨b, ws, rfl, h2', q2⟩ := r2.tupH
    have h1 : SqT X.K H a vs := h1'.sq
    have h2 : SqT X.K H b ws := h2'.sq
    refine thn (op_catA pins s σ H _ _ v u (fun v H' => KF X.K H' → Q v H') I rx ry ⟨a, b, vs, ws, rfl, rfl, h1, h2, by rw [q1.length, q2.length]; exact hz, fun e kf' => ?_, fun n1 e kf' => ?_, fun n1 n2 p hp kf' => ?_⟩) fun _ _ => ep_kf
    · subst e
      cases q1
      exact k _ _ (Same.refl H) kf (.tup h2' q2)
    · subst e
      cases q2
      rw [List.append_nil, isEmpty_no q1 n1] at k
      exact k _ _ (Same.refl H) kf (.tup h1' q1)
    · rw [isEmpty_no q1 n1, isEmpty_no q2 n2] at k
      exact k _ _ (upd_same_of hp) kf' (RV.newT hm hp (q1.append q2))
theorem int2 {o : Operator} {p q r : PV} (ho : o ≠ .Add ∧ o ≠ .Mult) (h : binS o p q = some r) : ∃ i j, p = .int i ∧ q = .int j := by
  cases o <;> first | exact absurd rfl ho.1 | exact absurd rfl ho.2 | (cases p <;> cases q <;> first | exact ⟨_, _, rfl, rfl⟩ | simp [binS] at h)
theorem RVs.rep {K : PySem.W.Frag} {B I : List Addr} {H : Hp} {vs : List V} {ps : List PV} (r : RVs K B I H vs ps) : ∀ n : Nat, RVs K B I H (List.replicate n vs).flatten (List.replicate n ps).flatten
  | 0 => .nil
  | n + 1 => by
    rw [List.replicate_succ, List.replicate_succ, List.flatten_cons, List.flatten_cons]
    exact r.append (RVs.rep r n)
/-- every operation -/
theorem op_binP : ∀ o : Operator, OpR X (binaryOp o) (r2 X.K (binS o))
  | .Add => op_addP
  | .Sub => by
    intro pins s σ H x y v u Q I rx ry ⟨L, B, m, p, q, r, hm, r1, r2, e, k⟩
    obtain ⟨i, j, rfl, rfl⟩ := int2 (by decide) e
    obtain rfl := r1.int
    obtain rfl := r2.int
    cases e
    exact op_sub pins s σ H _ _ v u Q I rx ry ⟨_, _, rfl, rfl, k _ _ (Same.refl H) (Inv.kfree I) (.int _)⟩
  | .Mult => by
    intro pins s σ H x y v u Q I rx ry ⟨L, B, m, p, q, r, hm, r1, r2, e, k⟩
    cases p with
    | int i =>
      cases q with
      | int j =>
        obtain rfl := r1.int
        obtain rfl := r2.int
        simp only [binS] at e
        split at e
        · rename_i hc
          cases e
          exact op_mulW pins s σ H _ _ v u Q I rx ry ⟨_, _, rfl, rfl, hc, k _ _ (Same.refl H) (Inv.kfree I) (.int _)⟩
        · cases e
      | _ => simp [binS] at e
    | tup g xs =>
      cases q with
      | int j =>
        obtain ⟨a, vs, rfl, ht, rs⟩ := r1.tupH
        obtain rfl := r2.int
        simp only [binS] at e
        split at e
        · rename_i hj
          subst hj
          cases e
          exact op_mulT1 pins s σ H _ _ v u Q I rx ry ⟨a, vs, rfl, rfl, ht.sq, k _ _ (Same.refl H) (Inv.kfree I) (.tup ht rs)⟩
        · split at e
          · rename_i hc
            cases e
            have hl := rs.length
            refine op_repT pins s σ H _ _ v u (fun v H' => KF X.K H' → Q v H') I rx ry ⟨a, j, vs, rfl, rfl, ht.sq, fun e => hc.2.2.1 (by subst e; exact List.eq_nil_of_length_eq_zero (by simpa using hl.symm)), hc.1, hc.2.1, by omega, fun pp hp kf => k _ _ (upd_same_of hp) kf (RV.newT hm hp (rs.rep j.toNat))⟩ |> fun h => thn h fun _ _ => ep_kf
          · cases e
      | _ => simp [binS] at e
    | _ => cases q <;> simp [binS] at e
  | .FloorDiv => by
    intro pins s σ H x y v u Q I rx ry ⟨L, B, m, p, q, r, hm, r1, r2, e, k⟩
    obtain ⟨i, j, rfl, rfl⟩ := int2 (by decide) e
    obtain rfl := r1.int
    obtain rfl := r2.int
    simp only [binS] at e
    split at e
    · rename_i hc
      cases e
      exact op_fdivW pins s σ H _ _ v u Q I rx ry ⟨_, _, rfl, rfl, hc, k _ _ (Same.refl H) (Inv.kfree I) (.int _)⟩
    · cases e
  | .Mod => by
    intro pins s σ H x y v u Q I rx ry ⟨L, B, m, p, q, r, hm, r1, r2, e, k⟩
    obtain ⟨i, j, rfl, rfl⟩ := int2 (by decide) e
    obtain rfl := r1.int
    obtain rfl := r2.int
    simp only [binS] at e
    split at e
    · rename_i hc
      cases e
      exact op_mod pins s σ H _ _ v u Q I rx ry ⟨_, _, rfl, rfl, hc, k _ _ (Same.refl H) (Inv.kfree I) (.int _)⟩
    · cases e
  | .Pow => by
    intro pins s σ H x y v u Q I rx ry ⟨L, B, m, p, q, r, hm, r1, r2, e, k⟩
    obtain ⟨i, j, rfl, rfl⟩ := int2 (by decide) e
    obtain rfl := r1.int
    obtain rfl := r2.int
    simp only [binS] at e
    split at e
    · rename_i hc
      cases e
      obtain ⟨t, rfl⟩ := rx
      obtain ⟨t', rfl⟩ := ry
      exact PyProof.Rows.pow_int hc.1 hc.2 ⟨.int _, H, I.tok _, ⟨_, rfl⟩, k _ _ (Same.refl H) (Inv.kfree I) (.int _)⟩
    · cases e
  | .MatMult | .Div | .LShift | .RShift | .BitOr | .BitXor | .BitAnd => fun _ _ _ _ _ _ _ _ _ _ _ _ ⟨_, _, _, p, q, _, _, _, _, e, _⟩ => by cases p <;> cases q <;> simp [binS] at e
end
end Sn
namespace Sn
open PySem PySem.Spec PyProof.Rows L2
/-! ### what an outcome asks -/
/-- an exception as the small language has it: its class's name, what it bears -/
def RX (mg : Str → Option Value) (K : PySem.W.Frag) (B I : List Addr) (H : Hp) (cls : Value) (d : Option Addr) (c : Str) : Option PV → Prop
  | none => mg c = some cls ∧ d = none
  | some p => mg c = some cls ∧ ∃ dd v, d = some dd ∧ dd ∉ I ∧ H dd = some (.xd [(("reason" : Str), v)]) ∧ RV K B I H v p
abbrev WI := List Addr → Value → Option Addr → Hp → Prop
abbrev rV (K : PySem.W.Frag) (B : List Addr) : List Addr → Hp → Mu → V → PV → Prop := fun I H _ v p => RV K B I H v p
abbrev rVs (K : PySem.W.Frag) (B : List Addr) : List Addr → Hp → Mu → List V → List PV → Prop := fun I H _ v p => RVs K B I H v p
/-- what an outcome asks: R what stands for what, Q, E what is wanted -/
def rok {α β : Type} (mg : Str → Option Value) (K : PySem.W.Frag) (R : List Addr → Hp → Mu → β → α → Prop) (B I : List Addr) (H : Hp) (Q : β → Hp → Prop) (E : XK) : Res α → Prop
  | .ok r m' => ∀ v I' H', Nx I I' H H' → RM K B I' H' m' → R I' H' m' v r → Q v H'
  | .exc c p m' => ∀ cls d I' H', Nx I I' H H' → RM K B I' H' m' → RX mg K B I' H' cls d c p → E cls d H'
  | .stuck => False
section
variable {α β γ δ : Type} {mg : Str → Option Value} {K : PySem.W.Frag} {R : List Addr → Hp → Mu → β → α → Prop} {R2 : List Addr → Hp → Mu → δ → γ → Prop} {I I1 B : List Addr} {H H1 : Hp} {Q : β → Hp → Prop} {Q2 : δ → Hp → Prop} {E : XK}
theorem rok.nx {x : Res α} (h : rok mg K R B I H Q E x) (n : Nx I I1 H H1) : rok mg K R B I1 H1 Q E x := by
  cases x with
  | ok r m => exact fun v I' H' n' => h v I' H' (n.trans n')
  | exc c p m => exact fun cls d I' H' n' => h cls d I' H' (n.trans n')
  | stuck => exact h
/-- first x, then g -/
theorem rok.seq {x : Res γ} {g : γ → Mu → Res α} (h : rok mg K R B I H Q E (x.bind g))
    (k : ∀ r m1, x = .ok r m1 → ∀ v I1 H1, Nx I I1 H H1 → RM K B I1 H1 m1 → R2 I1 H1 m1 v r → rok mg K R B I1 H1 Q E (g r m1) → Q2 v H1) : rok mg K R2 B I H Q2 E x := by
  cases x with
  | ok r m => exact fun v I' H' n rm rv => k r m rfl v I' H' n rm rv (rok.nx h n)
  | exc c p m => exact h
  | stuck => exact h
theorem rok.mono {x : Res α} {Q' : β → Hp → Prop} {E' : XK} (h : rok mg K R B I H Q E x) (hq : ∀ v H', Q v H' → Q' v H') (he : ∀ c d H', E c d H' → E' c d H') : rok mg K R B I H Q' E' x := by
  cases x with
  | ok r m => exact fun v I' H' n rm rv => hq _ _ (h v I' H' n rm rv)
  | exc c p m => exact fun cls d I' H' n rm rv => he _ _ _ (h cls d I' H' n rm rv)
  | stuck => exact h
end
/-- the slots and what they stand for -/
structure RS (K : PySem.W.Frag) (B I : List Addr) (H : Hp) (σ : L2.St) (ρ : Rho) (m : Mu) : Prop where
  rm : RM K B I H m
  len : ρ.length = σ.length
  at_ : ∀ (i : Nat) (p : PV), ρ[i]? = some (some p) → ∃ v, σ[i]? = some (some v) ∧ RV K B I H v p
theorem RS.nx {K : PySem.W.Frag} {I I1 B : List Addr} {H H1 : Hp} {σ : L2.St} {ρ : Rho} {m m1 : Mu} (h : RS K B I H σ ρ m) (n : Nx I I1 H H1) (r : RM K B I1 H1 m1) : RS K B I1 H1 σ ρ m1 :=
  ⟨r, h.len, fun i p e => let ⟨v, e1, e2⟩ := h.at_ i p e; ⟨v, e1, e2.nx n h.rm⟩⟩
theorem RS.set {K : PySem.W.Frag} {I B : List Addr} {H : Hp} {σ : L2.St} {ρ : Rho} {m : Mu} (h : RS K B I H σ ρ m) {i : Nat} {v : V} {p : PV} (r : RV K B I H v p) : RS K B I H (σ.set i (some v)) (ρ.set i (some p)) m := by
  refine ⟨h.rm, by simp [h.len], fun j q e => ?_⟩
  by_cases hj : i = j
  · subst hj
    rw [List.getElem?_set] at e
    simp only [if_true] at e
    split at e
    · rename_i hlt
      cases e
      refine ⟨v, ?_, r⟩
      rw [List.getElem?_set_self (by rw [← h.len]; exact hlt)]
    · cases e
  · rw [List.getElem?_set_ne hj] at e ⊢
    exact h.at_ j q e
/-- the wish about exceptions at the slots σ -/
abbrev rE (X : Cx) (W : WX) (f : Rho → Mu → Res PV) : TE := fun σ H Q => ∃ ρ m I B, RS X.K B I H σ ρ m ∧ rok X.mg X.K (rV X.K B) B I H Q (fun c d H' => W c d σ H') (f ρ m)
abbrev rA (X : Cx) (W : WX) (f : Rho → Mu → Res (List PV)) : TA := fun σ H Q => ∃ ρ m I B, RS X.K B I H σ ρ m ∧ rok X.mg X.K (rVs X.K B) B I H Q (fun c d H' => W c d σ H') (f ρ m)
def RB : List Addr → Hp → Mu → Bool → Bool → Prop := fun _ _ _ a b => a = b
abbrev rT (X : Cx) (W : WX) (f : Rho → Mu → Res Bool) : TT := fun σ H Q => ∃ ρ m I B, RS X.K B I H σ ρ m ∧ rok X.mg X.K RB B I H Q (fun c d H' => W c d σ H') (f ρ m)
theorem pe_imp {X : Cx} {e : Expr} {t t' : TE} (h : PE X e t) (k : ∀ σ H Q, t' σ H Q → t σ H fun v H' => KF X.K H' → Q v H') : PE X e t' :=
  ⟨fun pins s σ H Q I q => thn (h.run pins s σ H _ I (k σ H Q q)) fun _ _ => ep_kf⟩
theorem pa_imp {X : Cx} {es : List Expr} {t t' : TA} (h : PA X es t) (k : ∀ σ H Q, t' σ H Q → t σ H Q) : PA X es t' :=
  ⟨fun pos pins s σ H Q I q => h.run pos pins s σ H Q I (k σ H Q q)⟩
theorem pt_imp {X : Cx} {e : Expr} {t t' : TT} (h : PT X e t) (k : ∀ σ H Q, t' σ H Q → t σ H Q) : PT X e t' :=
  ⟨fun pins s σ H Q I q => h.run pins s σ H Q I (k σ H Q q)⟩
theorem pw_imp {X : Cx} {e : Expr} {t t' : TT} (h : PW X e t) (k : ∀ σ H Q, t' σ H Q → t σ H Q) : PW X e t' :=
  ⟨fun wh pins s σ H Q I q => h.run wh pins s σ H Q I (k σ H Q q)⟩
/-! ### the evaluator -/
/-- the items of what can be spliced in -/
def itemsS : PV → Option (List PV)
  | .lst xs => some xs
  | .tup _ xs => some xs
  | .scr xs => some xs
  | _ => none
def boolR (p : PV) (m : Mu) : Res Bool := match p with
  | .bl b => .ok b m
  | _ => .stuck
/-- a slice's bound -/
def ptS : PV → Option (Option Int)
  | .int i => some (some i)
  | _ => none
def cutP (xs : List PV) (lo hi : Option Int) : List PV := (xs.drop (HT.sIx xs.length 0 lo)).take (HT.sIx xs.length xs.length hi - HT.sIx xs.length 0 lo)
def cutS (lo hi : Option Int) : PV → Option PV
  | .lst xs => some (.lst (cutP xs lo hi))
  | .tup g xs => some (.tup (if HT.sIx xs.length 0 lo = 0 ∧ HT.sIx xs.length xs.length hi = xs.length then g else false) (cutP xs lo hi))
  | .str z => if z.length ≤ sizeLine then some (.str (L2.cutS z lo hi)) else none
  | _ => none
def itemS : PV → PV → Option PV
  | .lst xs, .int i => atI xs i
  | .scr xs, .int i => atI xs i
  | .tup _ xs, .int i => atI xs i
  | .dct ks xs, p => (ks.get xs p).bind id
  | .str z, .int i => if z.length ≤ sizeLine then (atI z.cps.toList i).map fun c => .str ⟨#[c]⟩ else none
  | _, _ => none
/-- the class of a value, by its name -/
def tyS : PV → Option String
  | .non => some "NoneType"
  | .bl _ => some "bool"
  | .int _ => some "int"
  | .str _ => some "str"
  | .tup _ _ => some "tuple"
  | .lst _ => some "list"
  | .scr _ => some "list"
  | .dct _ _ => some "dict"
  | _ => none
def lenS : PV → Option PV
  | .str z => if z.length ≤ sizeLine then some (.int z.length) else none
  | .tup _ xs => some (.int xs.length)
  | .dct _ xs => some (.int xs.length)
  | .lst xs => some (.int xs.length)
  | .scr xs => some (.int xs.length)
  | _ => none
def intS : PV → Option Int
  | .int i => some i
  | _ => none
def blS : PV → Option Bool
  | .bl b => some b
  | _ => none
def strS : PV → Option Str
  | .str b => some b
  | _ => none
def allO {α : Type} (f : PV → Option α) : List PV → Option (List α)
  | [] => some []
  | x :: xs => match f x, allO f xs with
    | some a, some as => some (a :: as)
    | _, _ => none
/-- a list's items, none of a tuple -/
def lsS : PV → Option (List PV)
  | .lst xs => some xs
  | .scr xs => some xs
  | _ => none
def maxI : Int → List Int → Int
  | a, [] => a
  | a, b :: r => maxI (if a < b then b else a) r
def minI : Int → List Int → Int
  | a, [] => a
  | a, b :: r => minI (if b < a then b else a) r
def maxS : List PV → Option PV
  | [.int i, .int j] => some (.int (if j > i then j else i))
  | [p] => match (lsS p).bind (allO intS) with
    | some (a :: r) => some (.int (maxI a r))
    | _ => none
  | _ => none
def minS : List PV → Option PV
  | [.int i, .int j] => some (.int (if j < i then j else i))
  | [p] => match (lsS p).bind (allO intS) with
    | some (a :: r) => some (.int (minI a r))
    | _ => none
  | _ => none
def encD (p : PV) : PyData := (toD p).getD .none
def srtS (xs : List PV) : List PV := xs.mergeSort (PySem.W.dataLe false encD)
open Classical in
noncomputable def sortedS (xs : List PV) : Option PV := match toDs xs with
  | some ds => if PySem.W.AllAlike ds ∧ PySem.W.Sortable ds ∧ xs.length ≤ sizeLine ∧ deps xs ≤ 60 then some (.lst (srtS xs)) else none
  | none => none
def tysS : List PV → Option (List String)
  | [] => some []
  | .ty t :: r => (tysS r).map (t :: ·)
  | _ => none
def anyK (s : String) : List String → Option Bool
  | [] => some false
  | t :: r => match kitB s t, anyK s r with
    | some a, some b => some (a || b)
    | _, _ => none
noncomputable def bltS : Bf → List PV → Option PV
  | .isinstance, [.ob, .ty t] => if t ∈ ["int", "str", "bool", "tuple", "list"] then some (.bl false) else none
  | .isinstance, [p, .ty t] => (tyS p).bind fun s => (kitB s t).map .bl
  | .isinstance, [p, .tup false ts] => (tyS p).bind fun s => (tysS ts).bind fun ts => (anyK s ts).map .bl
  | .len, [p] => lenS p
  | .abs, [.int i] => some (.int (if i < 0 then -i else i))
  | .max, ps => maxS ps
  | .min, ps => minS ps
  | .int, [.int i] => some (.int i)
  | .str, [.int i] => if i.natAbs.log2 < 1920 then some (.str (toString i)) else none
  | .str, [.str x] => some (.str x)
  | .tuple, [.tup g xs] => some (.tup g xs)
  | .tuple, [p] => (lsS p).map (.tup true)
  | .list, [.dct ks _] => some (.lst ks.keys)
  | .list, [p] => (itemsS p).map .lst
  | .sorted, [p] => (itemsS p).bind sortedS
  | .all, [p] => ((lsS p).bind (allO blS)).map fun bs => .bl (bs.all id)
  | .any, [p] => ((lsS p).bind (allO blS)).map fun bs => .bl (bs.any id)
  | .sum, [p] => ((lsS p).bind (allO intS)).map fun is => .int is.sum
  | _, _ => none
def mthS : Mf → List PV → Option PV
  | .join, [.str s, p] => ((itemsS p).bind (allO strS)).bind fun ys => if (ys.map (·.length)).sum + ys.length * s.length ≤ 16777216 then some (.str (Txt.join s ys)) else none
  | _, _ => none
def revS : PV → Option PV
  | .lst xs => some (.lst xs.reverse)
  | .tup _ xs => some (.tup false xs.reverse)
  | _ => none
noncomputable def prS : Pr → List PV → Option PV
  | .bin o, [p, q] => binS o p q
  | .cmp o, [p, q] => (cmpS o p q).map .bl
  | .neg, [.int i] => some (.int (-i))
  | .not_, [.bl b] => some (.bl (!b))
  | .item, [p, q] => itemS p q
  | .slc false false, [p] => cutS none none p
  | .slc true false, [p, .int i] => cutS (some i) none p
  | .slc false true, [p, .int j] => cutS none (some j) p
  | .rev, [p] => revS p
  | .tup, ps => lim ps.length (.tup true ps)
  | .ktup, ps => lim ps.length (.tup false ps)
  | .lst, ps => lim ps.length (.lst ps)
  | .blt f, ps => bltS f ps
  | .mth f, ps => mthS f ps
  | _, _ => none
/-- does the operation see through things that change? displays keep them -/
def seesR : Pr → Bool
  | .tup => false
  | .ktup => false
  | .lst => false
  | _ => true
noncomputable def prR (o : Pr) (vs : List PV) (m : Mu) : Res PV := oRes m (prS o (if seesR o then vs.map (drf m) else vs))
/-! ### walks -/
/-- an exception within: not told -/
def noX {α : Type} : Res α → Res α
  | .exc _ _ _ => .stuck
  | r => r
def setAll (ρ : Rho) : List Nat → List PV → Rho
  | i :: is, x :: xs => setAll (ρ.set i (some x)) is xs
  | _, _ => ρ
def bindT : Tg → PV → Rho → Option Rho
  | .nm i, p, ρ => some (ρ.set i (some p))
  | .tup is, .tup _ xs, ρ => if xs.length = is.length then some (setAll ρ is xs) else none
  | .tup is, .lst xs, ρ => if xs.length = is.length then some (setAll ρ is xs) else none
  | _, _, _ => none
def wipeR (ρ : Rho) : List Nat → Rho
  | [] => ρ
  | i :: is => (wipeR ρ is).set i none
/-- do the things that change and are walked stand as they stood? -/
def keeps (ws : List Nat) (m0 m : Mu) : Prop := ∀ l ∈ ws, m[l]? = m0[l]?
open Classical in
noncomputable def collect (f : PV → Mu → Res (List PV)) (ok : Mu → Prop) : List PV → Mu → Res (List PV)
  | [], m => if ok m then .ok [] m else .stuck
  | x :: xs, m => if ok m then (f x m).bind fun ys m => (collect f ok xs m).bind fun zs m => .ok (ys ++ zs) m else .stuck
/-- what is walked: the items, and the things that change among what is walked -/
def walkS (m : Mu) : PV → Option (List PV × List Nat)
  | .lst xs => some (xs, [])
  | .scr xs => some (xs, [])
  | .tup _ xs => some (xs, [])
  | .str z => some (z.cps.toList.map fun c => .str ⟨#[c]⟩, [])
  | .loc l => match m[l]? with
    | some (.lst xs) => some (xs, [l])
    | _ => none
  | _ => none
def isL : PV → Bool
  | .lst _ => true
  | .scr _ => true
  | .loc _ => true
  | _ => false
def isT : PV → Bool
  | .tup _ _ => true
  | _ => false
def rngS (i j : Int) : Option (List PV) := if -(2 ^ 62) ≤ i ∧ i < 2 ^ 62 ∧ -(2 ^ 62) ≤ j ∧ j < 2 ^ 62 then some ((List.range (j - i).toNat).map fun k => .int (i + (k : Nat))) else none
def zipS (xs ys : List PV) : List PV := List.zipWith (fun x y => .tup false [x, y]) xs ys
def enmS (xs : List PV) : List PV := List.zipWith (fun k x => .tup false [.int (k : Nat), x]) (List.range xs.length) xs
abbrev Wd := List PV × List Nat
def oWd (m : Mu) : Option Wd → Res Wd
  | some p => .ok p m
  | none => .stuck
/-- the name under which a class's own __init__ stands in the table -/
def initOf (C : Str) : Str := C ++ PySem.Str.ofString ".__init__"
def fldS (cs : List Str) (f : Str) (m : Mu) : PV → Option PV
  | .loc l => match m[l]? with
    | some (.ins C fs) => if C ∈ cs then fs.lookup f else none
    | _ => none
  | _ => none
/-- values in another order -/
def permV {α : Type} (perm : List Nat) (l : List α) : List α := perm.filterMap (l[·]?)
def permW {α : Type} (n k : Nat) (perm : List Nat) (us ws : List α) : List α := if us.length = n ∧ ws.length = k then permV perm (us ++ ws) else []
def put1 (d : DK × List PV) : PV → Option (DK × List PV)
  | .tup false [k, v] => d.1.put d.2 k v
  | _ => none
/-- pairs put into a dict -/
def putAll : DK × List PV → List PV → Option (DK × List PV)
  | d, [] => some d
  | d, y :: r => (put1 d y).bind fun d' => putAll d' r
mutual
noncomputable def ev (Φ : FEnv) : Ex → Rho → Mu → Res PV
  | .nm i, ρ, m => match ρ[i]? with
    | some (some p) => .ok p m
    | _ => .stuck
  | .cst p, _, m => .ok p m
  | .pr o as, ρ, m => (evs Φ as ρ m).bind fun vs m => prR o vs m
  | .and_ a b, ρ, m => ((ev Φ a ρ m).bind boolR).bind fun c m => if c = true then ev Φ b ρ m else .ok (.bl false) m
  | .or_ a b, ρ, m => ((ev Φ a ρ m).bind boolR).bind fun c m => if c = true then .ok (.bl true) m else ev Φ b ρ m
  | .ite c a b, ρ, m => ((ev Φ c ρ m).bind boolR).bind fun c m => if c = true then ev Φ a ρ m else ev Φ b ρ m
  | .chn a o b o2 c, ρ, m => (ev Φ a ρ m).bind fun x m => (ev Φ b ρ m).bind fun y m =>
    match cmpS o (drf m x) (drf m y) with
    | some true => (ev Φ c ρ m).bind fun z m => oRes m ((cmpS o2 (drf m y) (drf m z)).map .bl)
    | some false => .ok (.bl false) m
    | none => .stuck
  | .cut2 a b c, ρ, m => (ev Φ a ρ m).bind fun x m => (ev Φ b ρ m).bind fun y m => match y with
    | .int i => (ev Φ c ρ m).bind fun z m => match z with
      | .int j => oRes m (cutS (some i) (some j) (drf m x))
      | _ => .stuck
    | _ => .stuck
  | .call f as, ρ, m => (evs Φ as ρ m).bind fun vs m => Φ f vs m
  | .callk f as bs n k perm, ρ, m => (evs Φ as ρ m).bind fun us m => (evs Φ bs ρ m).bind fun ws m => Φ f (permW n k perm us ws) m
  | .thw e, ρ, m => (ev Φ e ρ m).bind fun p m => match p with
    | .lst xs => .ok (.loc m.length) (m ++ [.lst xs])
    | _ => .stuck
  | .comp tg it own c e, ρ, m => (evw Φ it ρ m).bind fun w m0 => if w.1.length ≤ sizeLine then
    (collect (fun x m1 => match bindT tg x (wipeR ρ own) with
      | some ρ' => noX ((ev Φ c ρ' m1).bind fun p m2 => (boolR p m2).bind fun b m2 => if b = true then (ev Φ e ρ' m2).bind fun y m3 => .ok [y] m3 else .ok [] m2)
      | none => .stuck) (keeps w.2 m0) w.1 m0).bind fun ys m => .ok (.lst ys) m
    else .stuck
  | .idx o e, ρ, m => (ev Φ o ρ m).bind fun p m => match p with
    | .tup true xs => (ev Φ e ρ m).bind fun q m => match q with
      | .str z => oRes m (((allO strS xs).bind fun ys => ys.findIdx? fun y => decide (y = z)).map fun j => .int (j : Nat))
      | _ => .stuck
    | _ => .stuck
  | .fld cs o f, ρ, m => (ev Φ o ρ m).bind fun p m => oRes m (fldS cs f m p)
  | .mk C as, ρ, m => (evs Φ as ρ m).bind fun vs m => (Φ (initOf C) (.loc m.length :: vs) (m ++ [.ins C []])).bind fun p m' => match p with
    | .non => .ok (.loc m.length) m'
    | _ => .stuck
  | .dnew tk, _, m => .ok (.loc m.length) (m ++ [.dct (if tk = true then .t [] else .k []) []])
  | .dcomp tg it own c k v, ρ, m => (evw Φ it ρ m).bind fun w m0 => if w.1.length ≤ sizeLine then
    (collect (fun x m1 => match bindT tg x (wipeR ρ own) with
      | some ρ' => noX ((ev Φ c ρ' m1).bind fun p m2 => (boolR p m2).bind fun b m2 => if b = true then (ev Φ k ρ' m2).bind fun y m3 => (ev Φ v ρ' m3).bind fun z m4 => .ok [.tup false [y, z]] m4 else .ok [] m2)
      | none => .stuck) (keeps w.2 m0) w.1 m0).bind fun ys m => match putAll (.k [], []) ys with
        | some d => .ok (.dct d.1 d.2) m
        | none => .stuck
    else .stuck
  | .comp2 tg it own c tg1 it1 own1 c1 e, ρ, m => (evw Φ it ρ m).bind fun w m0 =>
    (collect (fun x m1 => match bindT tg x (wipeR ρ own) with
      | some ρ' => noX ((ev Φ c ρ' m1).bind fun p m2 => (boolR p m2).bind fun b m2 => if b = true then
          (evw Φ it1 ρ' m2).bind fun w1 m3 => collect (fun x m4 => match bindT tg1 x (wipeR ρ' own1) with
            | some ρ'' => noX ((ev Φ c1 ρ'' m4).bind fun p m5 => (boolR p m5).bind fun b m5 => if b = true then (ev Φ e ρ'' m5).bind fun y m6 => .ok [y] m6 else .ok [] m5)
            | none => .stuck) (keeps w1.2 m3) w1.1 m3
          else .ok [] m2)
      | none => .stuck) (keeps w.2 m0) w.1 m0).bind fun ys m => if ys.length ≤ sizeLine then .ok (.lst ys) m else .stuck
noncomputable def evw (Φ : FEnv) : Wk → Rho → Mu → Res Wd
  | .seq e, ρ, m => (ev Φ e ρ m).bind fun p m => oWd m (walkS m p)
  | .rng a, ρ, m => (ev Φ a ρ m).bind fun p m => match p with
    | .int j => oWd m ((rngS 0 j).map fun xs => (xs, []))
    | _ => .stuck
  | .rng2 a b, ρ, m => (ev Φ a ρ m).bind fun p m => (ev Φ b ρ m).bind fun q m => match p, q with
    | .int i, .int j => oWd m ((rngS i j).map fun xs => (xs, []))
    | _, _ => .stuck
  | .zip a b, ρ, m => (ev Φ a ρ m).bind fun p m => (ev Φ b ρ m).bind fun q m => match walkS m p, walkS m q with
    | some (xs, ws), some (ys, us) => if (isL p && isL q || isT p && isT q) = true then .ok (zipS xs ys, ws ++ us) m else .stuck
    | _, _ => .stuck
  | .enm a, ρ, m => (ev Φ a ρ m).bind fun p m => match walkS m p with
    | some (xs, ws) => if isL p = true then .ok (enmS xs, ws) m else .stuck
    | none => .stuck
noncomputable def evs (Φ : FEnv) : Exs → Rho → Mu → Res (List PV)
  | .nil, _, m => .ok [] m
  | .cons st e es, ρ, m => (ev Φ e ρ m).bind fun x m =>
    if st = true then match itemsS (drf m x) with
      | some xs => (evs Φ es ρ m).bind fun ys m => .ok (xs ++ ys) m
      | none => .stuck
    else (evs Φ es ρ m).bind fun ys m => .ok (x :: ys) m
end
noncomputable def evT (Φ : FEnv) (e : Ex) (ρ : Rho) (m : Mu) : Res Bool := (ev Φ e ρ m).bind boolR
end Sn
namespace Sn
open PySem PySem.Spec PyProof.Rows L2
/-! ### from the program's text to the small language -/
/-- what is known of the place where the text stands -/
structure Stc where
  N : List Str
  sc : Scope
  cells : List Str
  thw : List Pos
  dk : List Pos
  con : List (Str × PV)
  fns : List (Str × Nat)
  kws : List (Str × Nat × List Str × List Nat)
  mks : List (Str × Nat)
  sms : List (Str × Str)
  flds : List (Str × Str)
abbrev Stc.names (S : Stc) : List (Str × NameKind) := S.sc.names
def Stc.slot (S : Stc) (x : Str) : Option Nat := match S.names.lookup x with
  | some .local => S.N.idxOf? x
  | some .cell => S.N.idxOf? x
  | some .free => S.N.idxOf? x
  | _ => none
def Stc.gl (S : Stc) (x : Str) : Bool := S.names.lookup x == some .globalImplicit && x != "__debug__" && x != "__name__"
def bltTab : List (Str × Bf) := [("isinstance", .isinstance), ("len", .len), ("abs", .abs), ("max", .max), ("min", .min), ("int", .int), ("str", .str), ("tuple", .tuple), ("list", .list), ("sorted", .sorted), ("all", .all), ("any", .any), ("sum", .sum)]
def bltFns : List Str := bltTab.map (·.1)
def bootV : Bf → Value
  | .isinstance => .builtin "isinstance" | .len => .builtin "len" | .abs => .builtin "abs" | .max => .builtin "max" | .min => .builtin "min" | .int => .type "int" | .str => .type "str" | .tuple => .type "tuple" | .list => .type "list"
  | .sorted => .builtin "sorted" | .all => .builtin "all" | .any => .builtin "any" | .sum => .builtin "sum"
def bltTys : List (Str × String) := [("int", "int"), ("str", "str"), ("bool", "bool"), ("tuple", "tuple"), ("list", "list")]
def isStar : Expr → Bool
  | .Starred _ _ => true
  | _ => false
def ixOk : Expr → Bool
  | .Slice _ _ _ _ => false
  | .Starred _ _ => false
  | .Tuple _ _ _ => false
  | _ => true
/-- minus one, as it is written -/
def isM1 : Expr → Bool
  | .UnaryOp .USub (.Constant (.int i) _ _) _ => decide (i = 1)
  | _ => false
/-- constants -/
def trC : Const → Option PV
  | .none => some .non
  | .bool b => some (.bl b)
  | .int i => some (.int i)
  | .str x => some (.str x)
  | _ => none
/-! ### targets -/
def Tg.slots : Tg → List Nat
  | .nm i => [i]
  | .tup is => is
def Stc.put (S : Stc) (x : Str) : Option Nat := match S.names.lookup x with
  | some .local => S.N.idxOf? x
  | some .cell => if S.cells.contains x then S.N.idxOf? x else none
  | _ => none
def trN (S : Stc) : Expr → Option Nat
  | .Name x _ => S.put x
  | _ => none
def trNs (S : Stc) : List Expr → Option (List Nat)
  | [] => some []
  | e :: es => match trN S e, trNs S es with
    | some i, some is => some (i :: is)
    | _, _ => none
def trG (S : Stc) : Expr → Option Tg
  | .Name x _ => (S.put x).map .nm
  | .Tuple es _ _ => (trNs S es).map .tup
  | _ => none
/-- the place inside a comprehension -/
def Stc.own (S : Stc) (scope : Scope) : List (Str × Nat) := scope.names.filterMap fun y => match y.2 with
  | .local => (S.N.idxOf? y.1).map fun i => (y.1, i)
  | .cell => (S.N.idxOf? y.1).map fun i => (y.1, i)
  | _ => none
def Stc.blk (S : Stc) (scope : Scope) : Stc := { S with sc := relS scope S.sc, cells := (scope.names.map (·.1)).filter fun x => scope.names.lookup x == some NameKind.cell }
def orSeq : Option Wk → Option Ex → Option Wk
  | some w, _ => some w
  | none, e => e.map .seq
def isTyE (S : Stc) : Expr → Bool
  | .Name x _ => S.gl x && (bltTys.lookup x).isSome
  | _ => false
def isCall0 : Expr → Bool
  | .Call _ [] [] _ => true
  | _ => false
/-- a method with one argument -/
def trM (m : Str) (o e : Expr) (p1 p2 : Pos) (xo xe : Option Ex) : Option Ex :=
  if (!isCall0 o && !isStar e && p1.endLine == p2.line) = true then match xo, xe with
    | some a, some b => if m = "index" then some (.idx a b) else if m = "join" then (match o with
      | .Constant (.str s) _ _ => some (.pr (.mth .join) (.cons false (.cst (.str s)) (.cons false b .nil)))
      | _ => none) else none
    | _, _ => none
  else none
/-- the order for a call with keywords -/
def kwNames : List Keyword → Option (List Str)
  | [] => some []
  | ⟨some n, _, _⟩ :: r => (kwNames r).map (n :: ·)
  | _ => none
def kwPerm (f : Str) (n : Nat) (ks : List Str) : List (Str × Nat × List Str × List Nat) → Option (List Nat)
  | [] => none
  | (f', n', ks', perm) :: r => if f' = f ∧ n' = n ∧ ks' = ks then some perm else kwPerm f n ks r
theorem kwPerm_mem {f : Str} {n : Nat} {ks : List Str} {perm : List Nat} : ∀ {l : List (Str × Nat × List Str × List Nat)}, kwPerm f n ks l = some perm → (f, n, ks, perm) ∈ l
  | (f', n', ks', perm') :: r, h => by
    simp only [kwPerm] at h
    split at h
    · rename_i hc
      cases h
      obtain ⟨rfl, rfl, rfl⟩ := hc
      exact List.mem_cons_self
    · exact List.mem_cons_of_mem _ (kwPerm_mem h)
def trCK (S : Stc) (f : Str) (es : List Expr) (kws : List Keyword) (xa xb : Option Exs) : Option Ex :=
  if (es.any isStar || !S.gl f || (S.slot f).isSome) = true then none else match kwNames kws with
    | some ks => match kwPerm f es.length ks S.kws, xa, xb with
      | some perm, some as, some bs => some (.callk f as bs es.length ks.length perm)
      | _, _, _ => none
    | none => none
def isTupE : Expr → Bool
  | .Tuple _ _ _ => true
  | _ => false
def isSetE : Expr → Bool
  | .Set _ _ _ => true
  | _ => false
/-- a static method of an own class, as a def of the table -/
def statOf (C m : Str) : Str := C ++ (PySem.Str.ofString "." ++ m)
def statM (S : Stc) (m : Str) : Expr → Option Str
  | .Name C _ => if (S.gl C && (S.slot C).isNone && S.sms.contains (C, m)) = true then some C else none
  | _ => none
def Stc.clsOf (S : Stc) (f : Str) : List Str := (S.flds.filter fun e => decide (e.2 = f)).map (·.1)
mutual
def trE (S : Stc) : Expr → Option Ex
  | .Name x _ => match S.slot x with
    | some i => if x != "__debug__" && x != "__classdict__" then some (.nm i) else none
    | none => if S.gl x then (match S.con.lookup x with
      | some p => some (.cst p)
      | none => (bltTys.lookup x).map fun t => .cst (.ty t)) else none
  | .Constant c _ _ => (trC c).map .cst
  | .BinOp l o r pos => match trE S l, trE S r with
    | some a, some b => some (if o = .Add ∧ S.thw.contains pos = true then .thw (.pr (.bin .Add) (.cons false a (.cons false b .nil))) else .pr (.bin o) (.cons false a (.cons false b .nil)))
    | _, _ => none
  | .UnaryOp .USub e _ => (trE S e).map fun a => .pr .neg (.cons false a .nil)
  | .UnaryOp .Not e _ => (trE S e).map fun a => .pr .not_ (.cons false a .nil)
  | .BoolOp op es _ => trB S op es
  | .IfExp c a b _ => match trE S c, trE S a, trE S b with
    | some x, some y, some z => some (.ite x y z)
    | _, _, _ => none
  | .Compare a [o] [b] _ => match trE S a, trE S b with
    | some x, some y => if behindInMarks o b then none else some (.pr (.cmp o) (.cons false x (.cons false y .nil)))
    | _, _ => none
  | .Compare a [o, o2] [b, c] _ => match trE S a, trE S b, trE S c with
    | some x, some y, some z => if lastMarks [o, o2] [b, c] then none else some (.chn x o y o2 z)
    | _, _, _ => none
  | .Subscript v (.Slice none none none _) _ => (trE S v).map fun a => .pr (.slc false false) (.cons false a .nil)
  | .Subscript v (.Slice (some l) none none _) _ => match trE S v, trE S l with
    | some a, some b => some (.pr (.slc true false) (.cons false a (.cons false b .nil)))
    | _, _ => none
  | .Subscript v (.Slice none (some u) none _) _ => match trE S v, trE S u with
    | some a, some b => some (.pr (.slc false true) (.cons false a (.cons false b .nil)))
    | _, _ => none
  | .Subscript v (.Slice (some l) (some u) none _) _ => match trE S v, trE S l, trE S u with
    | some a, some b, some c => some (.cut2 a b c)
    | _, _, _ => none
  | .Subscript v (.Slice none none (some st) _) _ => if isM1 st then (trE S v).map fun a => .pr .rev (.cons false a .nil) else none
  | .Subscript v i _ => if ixOk i then match trE S v, trE S i with
    | some a, some b => some (.pr .item (.cons false a (.cons false b .nil)))
    | _, _ => none else none
  | .Call (.Attribute o m p1) [e] [] p2 => match statM S m o with
    | some C => if isStar e || !(p1.endLine == p2.line) then none else (trE S e).map fun a => .call (statOf C m) (.cons false a .nil)
    | none => trM m o e p1 p2 (trE S o) (trE S e)
  | .Attribute o f _ => if isCall0 o then none else (trE S o).map fun a => .fld (S.clsOf f) a f
  | .Dict [] [] pos => some (if S.thw.contains pos then .cst (.dct (.k []) []) else .dnew (S.dk.contains pos))
  | .DictComp ke ve [⟨tg, iter, ifs, 0⟩] scope _ => match orSeq (trW S (isTupE tg) iter) (trE S iter), trG (S.blk scope) tg, trF (S.blk scope) ifs, trE (S.blk scope) ke, trE (S.blk scope) ve with
    | some w, some g, some c, some k, some v => if blkC S.N S.sc scope (S.own scope) && g.slots.all (((S.own scope).map (·.2)).contains ·) && !isSetE iter then some (.dcomp g w ((S.own scope).map (·.2)) c k v) else none
    | _, _, _, _, _ => none
  | .Call (.Name f _) (e :: es) [] _ => if es.any isStar || isStar e then none else match S.slot f, S.gl f, S.fns.lookup f with
    | none, true, some n => match trA S (e :: es) with
      | some as => if (e :: es).length = n then some (.call f as) else none
      | none => none
    | none, true, none => match bltTab.lookup f with
      | some b => (trA S (e :: es)).map fun as => .pr (.blt b) as
      | none => if S.mks.lookup f = some (e :: es).length then (trA S (e :: es)).map (.mk f) else none
    | _, _, _ => none
  | .Call (.Name f _) es (k :: ks) _ => trCK S f es (k :: ks) (trA S es) (trKs S (k :: ks))
  | .Tuple es _ _ => (trA S es).map (.pr (if es.all (isTyE S) then (if es.isEmpty then .tup else .ktup) else .tup))
  | .List es pos => (trA S es).map fun as => if S.thw.contains pos then .thw (.pr .lst as) else .pr .lst as
  | .ListComp elt [⟨tg, iter, ifs, 0⟩] scope pos => match orSeq (trW S (isTupE tg) iter) (trE S iter), trG (S.blk scope) tg, trF (S.blk scope) ifs, trE (S.blk scope) elt with
    | some w, some g, some c, some e => if blkC S.N S.sc scope (S.own scope) && g.slots.all (((S.own scope).map (·.2)).contains ·) && !isSetE iter then some (if S.thw.contains pos then .thw (.comp g w ((S.own scope).map (·.2)) c e) else .comp g w ((S.own scope).map (·.2)) c e) else none
    | _, _, _, _ => none
  | _ => none
def trKs (S : Stc) : List Keyword → Option Exs
  | [] => some .nil
  | k :: ks => match trK S k, trKs S ks with
    | some a, some as => some (.cons false a as)
    | _, _ => none
def trK (S : Stc) : Keyword → Option Ex
  | ⟨_, e, _⟩ => trE S e
def trF (S : Stc) : List Expr → Option Ex
  | [] => some (.cst (.bl true))
  | [c] => trE S c
  | _ => none
def trW (S : Stc) (tup : Bool) : Expr → Option Wk
  | .Call (.Name f fp) [a] [] cp => if f = "range" then (if S.gl f && !isStar a then (trE S a).map .rng else none)
    else if f = "enumerate" then (if S.gl f && !isStar a && tup then (trE S a).map .enm else none)
    else none
  | .Call (.Name f fp) [a, b] [] cp => if f = "range" then (if S.gl f && !isStar a && !isStar b then (match trE S a, trE S b with
      | some x, some y => some (.rng2 x y)
      | _, _ => none) else none)
    else if f = "zip" then (if S.gl f && !isStar a && !isStar b && tup then (match trE S a, trE S b with
      | some x, some y => some (.zip x y)
      | _, _ => none) else none)
    else none
  | _ => none
def trA (S : Stc) : List Expr → Option Exs
  | [] => some .nil
  | .Starred e _ :: es => match trE S e, trA S es with
    | some a, some as => some (.cons true a as)
    | _, _ => none
  | e :: es => match trE S e, trA S es with
    | some a, some as => some (.cons false a as)
    | _, _ => none
def trB (S : Stc) (op : BoolOp) : List Expr → Option Ex
  | [] => none
  | [e] => trE S e
  | e :: es => match trE S e, trB S op es with
    | some a, some b => some (bop op a b)
    | _, _ => none
end
/-! ### what the context must have -/
/-- a def's promise: what the evaluator says of it -/
def spF (mg : Str → Option Value) (K : PySem.W.Frag) (φ : List PV → Mu → Res PV) : Sp := fun vs H Q E => ∃ args m I B, RM K B I H m ∧ RVs K B I H vs args ∧ rok mg K (rV K B) B I H Q E (φ args m)
structure Callee (X : Cx) (φ : List PV → Mu → Res PV) (f : Str) (n : Nat) : Prop where
  ex : ∃ (fa : Addr) (fd : FuncData) (ps : List Str) (k : Nat), X.mg f = some (.ref fa) ∧ PySem.W.keepIn X.K (.ref fa) = true ∧ Room k X.A ∧ Binds X.K fd ps [] ∧
    FnOk X.prog X.w X.K X.mg X.base (L2.CX X.prog X.w) k fa fd ps (spF X.mg X.K φ)
/-- a def called with keywords -/
structure CalleeK (X : Cx) (φ : List PV → Mu → Res PV) (f : Str) (n : Nat) (ks : List Str) (perm : List Nat) : Prop where
  ex : ∃ (fa : Addr) (fd : FuncData) (ps : List Str) (k : Nat), X.mg f = some (.ref fa) ∧ PySem.W.keepIn X.K (.ref fa) = true ∧ Room k X.A ∧ KBinds X.K fd ps ks (permW n ks.length perm) (permW n ks.length perm) ∧
    FnOk X.prog X.w X.K X.mg X.base (L2.CX X.prog X.w) k fa fd ps (spF X.mg X.K φ)
/-- an own class that is made by its name -/
structure CalleeM (X : Cx) (φ : List PV → Mu → Res PV) (C : Str) : Prop where
  ex : ∃ (Ca fa : Addr) (fd : FuncData) (ps : List Str) (k : Nat), X.mg C = some (.ref Ca) ∧ PySem.W.nsIn X.K mainGlobals C = some (some (.ref Ca)) ∧ ObC X.K Ca ∧ Mk X.K Ca fa ∧ Room (k + 1) X.A ∧ Binds X.K fd ps [] ∧
    FnOk X.prog X.w X.K X.mg X.base (L2.CX X.prog X.w) k fa fd ps (spF X.mg X.K φ)
/-- a static method of an own class -/
structure SMet (K : PySem.W.Frag) (C : Addr) (m : Str) (g : Addr) : Prop where
  rd : ClX.CRead K C (.type "type")
  at_ : ∃ p, PySem.W.findCls K (.ref C) (.type "type") m = some (.get (.builtin "staticmethod.__get__") (.ref p) .none (.ref C)) ∧ ∃ rest, PySem.W.recIn K p "staticmethod" = some (.ref g :: rest)
  kp : PySem.W.keepIn K (.ref g) = true
structure CalleeS (X : Cx) (φ : List PV → Mu → Res PV) (C m : Str) : Prop where
  ex : ∃ (Ca fa : Addr) (fd : FuncData) (ps : List Str) (k : Nat), X.mg C = some (.ref Ca) ∧ SMet X.K Ca m fa ∧ Room k X.A ∧ Binds X.K fd ps [] ∧
    FnOk X.prog X.w X.K X.mg X.base (L2.CX X.prog X.w) k fa fd ps (spF X.mg X.K φ)
structure XOk (S : Stc) (Φ : FEnv) (W : WX) (X : Cx) : Prop where
  N : X.N = S.N
  sc : X.env.scope = S.sc
  fn : ∀ x ∈ S.cells, X.fn x = true
  rng : X.mg "range" = none
  zp : X.mg "zip" = none
  enm : X.mg "enumerate" = none
  nd : X.N.Nodup
  calm : X.calm = true
  units : X.A.units + 66 < cLine
  con : ∀ x p, S.con.lookup x = some p → ∃ v u, X.mg x = some u ∧ RelV v u ∧ ∀ B I H m, RM X.K B I H m → RV X.K B I H v p
  blt : ∀ x ∈ bltFns, X.mg x = none
  bty : ∀ x t, bltTys.lookup x = some t → X.mg x = none
  fns : ∀ f n, S.fns.lookup f = some n → Callee X (Φ f) f n
  kws : ∀ f n ks perm, (f, n, ks, perm) ∈ S.kws → CalleeK X (Φ f) f n ks perm
  tk : Takes X W
  mks : ∀ C n, S.mks.lookup C = some n → CalleeM X (Φ (initOf C)) C
  sms : ∀ C m, (C, m) ∈ S.sms → CalleeS X (Φ (statOf C m)) C m
  flds : ∀ C f, (C, f) ∈ S.flds → ∀ Ca, PySem.W.nsIn X.K mainGlobals C = some (some (.ref Ca)) → NoAttr X.K Ca f
section
variable {S : Stc} {Φ : FEnv} {W : WX} {X : Cx}
theorem XOk.kind (o : XOk S Φ W X) (x : Str) : X.env.kindOf x = S.names.lookup x := by
  unfold Env.kindOf
  rw [o.sc]
theorem slot_some {x : Str} {i : Nat} (h : S.slot x = some i) : S.N[i]? = some x ∧ (S.names.lookup x = some .local ∨ S.names.lookup x = some .cell ∨ S.names.lookup x = some .free) := by
  have key : ∀ {j}, S.N.idxOf? x = some j → S.N[j]? = some x := fun {j} e => by
    unfold List.idxOf? at e
    obtain ⟨hlt, hb, _⟩ := List.findIdx?_eq_some_iff_getElem.mp e
    rw [List.getElem?_eq_getElem hlt]
    simpa using hb
  unfold Stc.slot at h
  split at h
  · exact ⟨key h, by simp [*]⟩
  · exact ⟨key h, by simp [*]⟩
  · exact ⟨key h, by simp [*]⟩
  · cases h
theorem gl_some {x : Str} (o : XOk S Φ W X) (h : S.gl x = true) : Gl X x ∧ (x == ("__debug__" : Str)) = false ∧ x ≠ "__name__" := by
  simp only [Stc.gl, Bool.and_eq_true, beq_iff_eq, bne_iff_ne, ne_eq] at h
  exact ⟨(o.kind x).trans h.1.1, by simpa using h.1.2, h.2⟩
theorem starEach_plain {e : Expr} {es : List Expr} {env : Env} (h : isStar e = false) : starEach (e :: es) env = (false, eval e env) :: starEach es env := by
  cases e <;> first | rfl | simp [isStar] at h
theorem starEach_none {env : Env} : ∀ {es : List Expr}, es.any isStar = false → (starEach es env).any (·.1) = false
  | [], _ => rfl
  | e :: es, h => by
    simp only [List.any_cons, Bool.or_eq_false_iff] at h
    rw [starEach_plain h.1]
    simp only [List.any_cons, starEach_none h.2, Bool.or_false]
theorem backTo_any {pos : Pos} : ∀ {l : List (Bool × Sem Value)}, (backTo pos l).any (·.1) = l.any (·.1)
  | [] => rfl
  | (b, t) :: r => by
    have ih := backTo_any (pos := pos) (l := r)
    unfold backTo at ih ⊢
    simp only [List.map_cons, List.any_cons, ih]
theorem plainIx {b : Expr} (h : ixOk b = true) : PlainIx b := fun o i => by
  cases b <;> first | rfl | simp [ixOk] at h
/-! ### one construct each -/
theorem s_var {i : Nat} {x : Str} {pos : Pos} (o : XOk S Φ W X) (h : S.slot x = some i) (hd : (x != "__debug__" && x != "__classdict__") = true) : PE X (.Name x pos) (rE X W (ev Φ (.nm i))) := by
  obtain ⟨h1, h2⟩ := slot_some h
  simp only [Bool.and_eq_true, bne_iff_ne, ne_eq] at hd
  refine pe_imp (pe_var (i := i) (by rw [o.N]; exact h1) (by unfold Vis; rw [o.sc]; exact h2) (by simpa using hd.1) (by simpa using hd.2)) fun σ H Q ⟨ρ, m, I, B, rs, r⟩ => ?_
  unfold ev at r
  split at r
  · rename_i p e
    obtain ⟨v, e1, e2⟩ := rs.at_ i p e
    exact ⟨v, e1, fun _ => r v I H (Nx.refl I H) rs.rm e2⟩
  · exact r.elim
theorem s_const {c : Const} {p : PV} {k : Nat} {pos : Pos} (h : trC c = some p) : PE X (.Constant c k pos) (rE X W (ev Φ (.cst p))) := by
  cases c <;> simp only [trC, Option.some.injEq, reduceCtorEq] at h <;> subst h
  · exact pe_imp pe_non fun σ H Q ⟨ρ, m, I, B, rs, r⟩ _ => r _ I H (Nx.refl I H) rs.rm .non
  · exact pe_imp pe_bl fun σ H Q ⟨ρ, m, I, B, rs, r⟩ _ => r _ I H (Nx.refl I H) rs.rm (.bl _)
  · exact pe_imp pe_int fun σ H Q ⟨ρ, m, I, B, rs, r⟩ _ => r _ I H (Nx.refl I H) rs.rm (.int _)
  · exact pe_imp pe_str fun σ H Q ⟨ρ, m, I, B, rs, r⟩ _ => r _ I H (Nx.refl I H) rs.rm (.str _)
theorem s_con {x : Str} {p : PV} {pos : Pos} (o : XOk S Φ W X) (hg : S.gl x = true) (h : S.con.lookup x = some p) : PE X (.Name x pos) (rE X W (ev Φ (.cst p))) := by
  obtain ⟨g1, g2, _⟩ := gl_some o hg
  obtain ⟨v, u, e, r, k⟩ := o.con x p h
  exact pe_imp (pe_glob g1 e r g2) fun σ H Q ⟨ρ, m, I, B, rs, r⟩ _ => r _ I H (Nx.refl I H) rs.rm (k B I H m rs.rm)
theorem bltTys_boot : ∀ x t, bltTys.lookup x = some t → bootBuiltins x = some (.type t) := by
  have key : ∀ p ∈ bltTys, bootBuiltins p.1 = some (.type p.2) := by decide +kernel
  intro x t h
  exact key (x, t) (PySem.mem_of_lookup h)
theorem s_bty {x : Str} {t : String} {pos : Pos} (o : XOk S Φ W X) (hg : S.gl x = true) (h : bltTys.lookup x = some t) : PE X (.Name x pos) (rE X W (ev Φ (.cst (.ty t)))) := by
  obtain ⟨g1, g2, g3⟩ := gl_some o hg
  exact pe_imp (pe_bltn (v := .ty t) g1 (o.bty x t h) (bltTys_boot x t h) rfl g3 g2) fun σ H Q ⟨ρ, m, I, B, rs, r⟩ _ => r _ I H (Nx.refl I H) rs.rm (.ty t)
end
end Sn
namespace Sn
open PySem PySem.Spec PyProof.Rows L2
theorem bind_assoc {α β γ : Type} (x : Res α) (f : α → Mu → Res β) (g : β → Mu → Res γ) : (x.bind f).bind g = x.bind fun a m => (f a m).bind g := by
  cases x <;> rfl
theorem ok_bind {α β : Type} (a : α) (m : Mu) (f : α → Mu → Res β) : (Res.ok a m).bind f = f a m := rfl
theorem exc_bind {α β : Type} (c : Str) (p : Option PV) (m : Mu) (f : α → Mu → Res β) : (Res.exc c p m : Res α).bind f = .exc c p m := rfl
theorem stuck_bind {α β : Type} (f : α → Mu → Res β) : (Res.stuck : Res α).bind f = .stuck := rfl
theorem drf_loc (m : Mu) (l : Nat) : (∃ xs, drf m (.loc l) = .lst xs) ∨ (∃ ks xs, drf m (.loc l) = .dct ks xs) ∨ drf m (.loc l) = .loc l ∨ drf m (.loc l) = .ob := by
  cases h : m[l]? with
  | none => exact .inr (.inr (.inl (by simp [drf, h])))
  | some o =>
    cases o with
    | lst xs => exact .inl ⟨xs, by simp [drf, h]⟩
    | dct ks xs => exact .inr (.inl ⟨ks, xs, by simp [drf, h]⟩)
    | ins C fs => exact .inr (.inr (.inr (by simp [drf, h])))
section
variable {Φ : FEnv} {o : Pr} {a b c : Ex} {ρ : Rho} {m : Mu}
theorem ev_pr1 : ev Φ (.pr o (.cons false a .nil)) ρ m = (ev Φ a ρ m).bind fun x m => prR o [x] m := by
  simp only [ev, evs, bind_assoc, Bool.false_eq_true, if_false, ok_bind]
theorem ev_pr2 : ev Φ (.pr o (.cons false a (.cons false b .nil))) ρ m = (ev Φ a ρ m).bind fun x m => (ev Φ b ρ m).bind fun y m => prR o [x, y] m := by
  simp only [ev, evs, bind_assoc, Bool.false_eq_true, if_false, ok_bind]
theorem ev_pr3 : ev Φ (.pr o (.cons false a (.cons false b (.cons false c .nil)))) ρ m = (ev Φ a ρ m).bind fun x m => (ev Φ b ρ m).bind fun y m => (ev Φ c ρ m).bind fun z m => prR o [x, y, z] m := by
  simp only [ev, evs, bind_assoc, Bool.false_eq_true, if_false, ok_bind]
end
section
variable {mg : Str → Option Value} {K : PySem.W.Frag} {I B : List Addr} {H H' : Hp} {m : Mu} {Q : VK} {E : XK}
/-- the end of an operation that keeps what is tracked -/
theorem rok.fin {r : PV} {v : V} (h : rok mg K (rV K B) B I H Q E (.ok r m)) (rm : RM K B I H m) (s : Same H H') (kf : KF K H') (rv : RV K B I H' v r) : Q v H' :=
  h v I H' (Nx.same I s) (rm.same s) rv
theorem prR_some {o : Pr} {vs : List PV} (h : rok mg K (rV K B) B I H Q E (prR o vs m)) : ∃ r, prS o (if seesR o then vs.map (drf m) else vs) = some r ∧ rok mg K (rV K B) B I H Q E (.ok r m) := by
  unfold prR at h
  cases e : prS o (if seesR o then vs.map (drf m) else vs) with
  | none => rw [e] at h; exact h.elim
  | some r => rw [e] at h; exact ⟨r, rfl, h⟩
end
section
variable {S : Stc} {Φ : FEnv} {W : WX} {X : Cx} {ea eb ec : Expr} {a b c : Ex} {pos : Pos}
/-- two operands, then an operation by values -/
theorem two {o : Pr} {g : PV → PV → Option PV} (hs : seesR o = true) (hg : ∀ p q, prS o [p, q] = g p q) {σ : L2.St} {H : Hp} {Q : VK} (h : rE X W (ev Φ (.pr o (.cons false a (.cons false b .nil)))) σ H Q) :
    tOp (r2 X.K g) (rE X W (ev Φ a)) (rE X W (ev Φ b)) σ H fun v H' => KF X.K H' → Q v H' := by
  obtain ⟨ρ, m, I, B, rs, r⟩ := h
  rw [ev_pr2] at r
  refine ⟨ρ, m, I, B, rs, r.seq fun x m1 _ v I1 H1 n1 rm1 rv1 r => ⟨ρ, m1, I1, B, rs.nx n1 rm1, r.seq fun y m2 _ u I2 H2 n2 rm2 rv2 r => ?_⟩⟩
  obtain ⟨z, e, r⟩ := prR_some r
  rw [if_pos hs] at e
  rw [show ([x, y].map (drf m2)) = [drf m2 x, drf m2 y] from rfl, hg] at e
  exact ⟨I2, B, m2, _, _, z, rm2, (rv1.nx n2 rm1).rt rm2, rv2.rt rm2, e, fun w H' s kf rv _ => r.fin rm2 s kf rv⟩
theorem s_bin {o : Operator} (ha : PE X ea (rE X W (ev Φ a))) (hb : PE X eb (rE X W (ev Φ b))) : PE X (.BinOp ea o eb pos) (rE X W (ev Φ (.pr (.bin o) (.cons false a (.cons false b .nil))))) :=
  pe_imp (pe_op (op_binP o) ha hb) fun _ _ _ h => two rfl (fun _ _ => rfl) h
theorem s_cmp {o : CmpOp} (hu : X.A.units + 64 < cLine) (hm : behindInMarks o eb = false) (ha : PE X ea (rE X W (ev Φ a))) (hb : PE X eb (rE X W (ev Φ b))) :
    PE X (.Compare ea [o] [eb] pos) (rE X W (ev Φ (.pr (.cmp o) (.cons false a (.cons false b .nil))))) :=
  pe_imp (pe_cmpR (op_cmpP hu o) ha hb hm) fun _ _ _ h => two rfl (fun _ _ => rfl) h
/-- a value's outcome as a test's -/
theorem rT_of {f : Rho → Mu → Res PV} {σ : L2.St} {H : Hp} {Q : Bool → Hp → Prop} (h : rT X W (fun ρ m => (f ρ m).bind boolR) σ H Q) : rE X W f σ H fun v H' => ∃ k, v = .bl k ∧ Q k H' := by
  obtain ⟨ρ, m, I, B, rs, r⟩ := h
  refine ⟨ρ, m, I, B, rs, r.seq fun x m1 _ v I1 H1 n1 rm1 rv1 r => ?_⟩
  unfold boolR at r
  split at r
  · cases rv1
    exact ⟨_, rfl, r _ I1 H1 (Nx.refl I1 H1) rm1 rfl⟩
  · exact r.elim
/-- a test of a value -/
theorem t_val (he : ∀ whole, isTrue ea X.env whole = (do let v ← whole; standAt ea.pos; holding [v] (truthy v))) (ha : PE X ea (rE X W (ev Φ a))) : PT X ea (rT X W (evT Φ a)) :=
  pt_imp (pt_val ha he) fun _ _ _ h => rT_of h
theorem t_cmp {o : CmpOp} (hu : X.A.units + 64 < cLine) (hm : behindInMarks o eb = false) (ha : PE X ea (rE X W (ev Φ a))) (hb : PE X eb (rE X W (ev Φ b))) :
    PT X (.Compare ea [o] [eb] pos) (rT X W (evT Φ (.pr (.cmp o) (.cons false a (.cons false b .nil))))) := by
  refine pt_imp (pt_cmpR (op_cmpP hu o) ha hb hm) fun σ H Q h => ?_
  have h2 := two (a := a) (b := b) (o := .cmp o) rfl (fun _ _ => rfl) (rT_of h)
  obtain ⟨ρ, m, I, B, rs, r⟩ := h2
  refine ⟨ρ, m, I, B, rs, r.mono (fun v H1 q => ?_) fun _ _ _ q => q⟩
  obtain ⟨ρ2, m2, I2, B2, rs2, r2⟩ := q
  refine ⟨ρ2, m2, I2, B2, rs2, r2.mono (fun u H2 q => ?_) fun _ _ _ q => q⟩
  obtain ⟨I3, B3, m3, p, q', z, rm, w1, w2, e, k⟩ := q
  exact ⟨I3, B3, m3, p, q', z, rm, w1, w2, e, fun w H' s kf rv => k w H' s kf rv kf⟩
theorem t_not (ha : PT X ea (rT X W (evT Φ a))) : PT X (.UnaryOp .Not ea pos) (rT X W (evT Φ (.pr .not_ (.cons false a .nil)))) := by
  refine pt_imp (pt_not ha) fun σ H Q ⟨ρ, m, I, B, rs, r⟩ => ⟨ρ, m, I, B, rs, ?_⟩
  unfold evT at r ⊢
  rw [ev_pr1, bind_assoc] at r
  cases e : ev Φ a ρ m with
  | ok p m1 =>
    rw [e] at r
    simp only [Res.bind] at r ⊢
    unfold prR at r
    simp only [seesR, if_true, List.map_cons, List.map_nil] at r
    cases p with
    | bl k =>
      simp only [drf, prS, oRes, Res.bind, boolR] at r ⊢
      intro b I' H' n rm rv
      cases rv
      exact r _ I' H' n rm rfl
    | loc l =>
      exfalso
      rcases drf_loc m1 l with ⟨xs, e⟩ | ⟨ks, xs, e⟩ | e | e <;> rw [e] at r <;> simp [prS, oRes, Res.bind, rok] at r
    | _ => simp [drf, prS, oRes, Res.bind, rok] at r
  | exc c p m1 =>
    rw [e] at r
    exact r
  | stuck =>
    rw [e] at r
    exact r
theorem s_not (ha : PE X ea (rE X W (ev Φ a))) : PE X (.UnaryOp .Not ea pos) (rE X W (ev Φ (.pr .not_ (.cons false a .nil)))) := by
  refine pe_imp (pe_not ha) fun σ H Q ⟨ρ, m, I, B, rs, r⟩ => ⟨ρ, m, I, B, rs, ?_⟩
  rw [ev_pr1] at r
  refine r.seq fun x m1 _ v I1 H1 n1 rm1 rv1 r => ?_
  obtain ⟨z, e, r⟩ := prR_some r
  cases rv1 with
  | bl k =>
    simp only [seesR, if_true, List.map_cons, List.map_nil, drf, prS, Option.some.injEq] at e
    subst e
    exact ⟨k, rfl, fun _ => r _ I1 H1 (Nx.refl I1 H1) rm1 (.bl _)⟩
  | loc h =>
    simp only [seesR, if_true, List.map_cons, List.map_nil] at e
    rename_i l _
    rcases drf_loc m1 l with ⟨xs, e2⟩ | ⟨ks, xs, e2⟩ | e2 | e2 <;> rw [e2] at e <;> simp [prS] at e
  | _ => simp [seesR, drf, prS] at e
theorem s_neg (ha : PE X ea (rE X W (ev Φ a))) : PE X (.UnaryOp .USub ea pos) (rE X W (ev Φ (.pr .neg (.cons false a .nil)))) := by
  refine pe_imp (pe_un un_neg ha) fun σ H Q ⟨ρ, m, I, B, rs, r⟩ => ⟨ρ, m, I, B, rs, ?_⟩
  rw [ev_pr1] at r
  refine r.seq fun x m1 _ v I1 H1 n1 rm1 rv1 r => ?_
  obtain ⟨z, e, r⟩ := prR_some r
  cases rv1 with
  | int k =>
    simp only [seesR, if_true, List.map_cons, List.map_nil, drf, prS, Option.some.injEq] at e
    subst e
    exact ⟨k, rfl, fun _ => r _ I1 H1 (Nx.refl I1 H1) rm1 (.int _)⟩
  | loc h =>
    simp only [seesR, if_true, List.map_cons, List.map_nil] at e
    rename_i l _
    rcases drf_loc m1 l with ⟨xs, e2⟩ | ⟨ks, xs, e2⟩ | e2 | e2 <;> rw [e2] at e <;> simp [prS] at e
  | _ => simp [seesR, drf, prS] at e
/-- and, or, as values and as tests -/
theorem s_and {es : List Expr} (ha : PE X ea (rE X W (ev Φ a))) (hb : PE X (.BoolOp .And (eb :: es) pos) (rE X W (ev Φ b))) : PE X (.BoolOp .And (ea :: eb :: es) pos) (rE X W (ev Φ (.and_ a b))) := by
  refine pe_imp (pe_and ha hb) fun σ H Q ⟨ρ, m, I, B, rs, r⟩ => ?_
  have h : rT X W (fun ρ m => (ev Φ a ρ m).bind boolR) σ H (fun k H1 => if k = true then rE X W (ev Φ b) σ H1 (fun v H' => KF X.K H' → Q v H') else KF X.K H1 → Q (.bl false) H1) := by
    refine ⟨ρ, m, I, B, rs, r.seq fun k m1 _ v I1 H1 n1 rm1 rv1 r => ?_⟩
    cases rv1
    cases k with
    | true =>
      simp only [if_true] at r ⊢
      exact ⟨ρ, m1, I1, B, rs.nx n1 rm1, r.mono (fun _ _ q _ => q) fun _ _ _ q => q⟩
    | false =>
      simp only [Bool.false_eq_true, if_false] at r ⊢
      exact fun _ => r _ I1 H1 (Nx.refl I1 H1) rm1 (.bl _)
  exact rT_of h
theorem s_or {es : List Expr} (ha : PE X ea (rE X W (ev Φ a))) (hb : PE X (.BoolOp .Or (eb :: es) pos) (rE X W (ev Φ b))) : PE X (.BoolOp .Or (ea :: eb :: es) pos) (rE X W (ev Φ (.or_ a b))) := by
  refine pe_imp (pe_or ha hb) fun σ H Q ⟨ρ, m, I, B, rs, r⟩ => ?_
  have h : rT X W (fun ρ m => (ev Φ a ρ m).bind boolR) σ H (fun k H1 => if k = true then KF X.K H1 → Q (.bl true) H1 else rE X W (ev Φ b) σ H1 (fun v H' => KF X.K H' → Q v H')) := by
    refine ⟨ρ, m, I, B, rs, r.seq fun k m1 _ v I1 H1 n1 rm1 rv1 r => ?_⟩
    cases rv1
    cases k with
    | true =>
      simp only [if_true] at r ⊢
      exact fun _ => r _ I1 H1 (Nx.refl I1 H1) rm1 (.bl _)
    | false =>
      simp only [Bool.false_eq_true, if_false] at r ⊢
      exact ⟨ρ, m1, I1, B, rs.nx n1 rm1, r.mono (fun _ _ q _ => q) fun _ _ _ q => q⟩
  exact rT_of h
theorem evT_and {ρ : Rho} {m : Mu} : evT Φ (.and_ a b) ρ m = (evT Φ a ρ m).bind fun k m => if k = true then evT Φ b ρ m else .ok false m := by
  unfold evT
  simp only [ev, bind_assoc]
  congr 1; funext x m1
  cases e : boolR x m1 with
  | ok k m2 => cases k <;> simp [Res.bind, boolR]
  | exc c p m2 => rfl
  | stuck => rfl
theorem evT_or {ρ : Rho} {m : Mu} : evT Φ (.or_ a b) ρ m = (evT Φ a ρ m).bind fun k m => if k = true then .ok true m else evT Φ b ρ m := by
  unfold evT
  simp only [ev, bind_assoc]
  congr 1; funext x m1
  cases e : boolR x m1 with
  | ok k m2 => cases k <;> simp [Res.bind, boolR]
  | exc c p m2 => rfl
  | stuck => rfl
theorem w_and {es : List Expr} (ha : PT X ea (rT X W (evT Φ a))) (hb : PW X (.BoolOp .And (eb :: es) pos) (rT X W (evT Φ b))) : PW X (.BoolOp .And (ea :: eb :: es) pos) (rT X W (evT Φ (.and_ a b))) := by
  refine pw_imp (pw_and ha hb) fun σ H Q ⟨ρ, m, I, B, rs, r⟩ => ?_
  rw [evT_and] at r
  refine ⟨ρ, m, I, B, rs, r.seq fun k m1 _ v I1 H1 n1 rm1 rv1 r => ?_⟩
  cases rv1
  cases k with
  | true => simp only [if_true] at r ⊢; exact ⟨ρ, m1, I1, B, rs.nx n1 rm1, r⟩
  | false => simp only [Bool.false_eq_true, if_false] at r ⊢; exact r _ I1 H1 (Nx.refl I1 H1) rm1 rfl
theorem w_or {es : List Expr} (ha : PT X ea (rT X W (evT Φ a))) (hb : PW X (.BoolOp .Or (eb :: es) pos) (rT X W (evT Φ b))) : PW X (.BoolOp .Or (ea :: eb :: es) pos) (rT X W (evT Φ (.or_ a b))) := by
  refine pw_imp (pw_or ha hb) fun σ H Q ⟨ρ, m, I, B, rs, r⟩ => ?_
  rw [evT_or] at r
  refine ⟨ρ, m, I, B, rs, r.seq fun k m1 _ v I1 H1 n1 rm1 rv1 r => ?_⟩
  cases rv1
  cases k with
  | true => simp only [if_true] at r ⊢; exact r _ I1 H1 (Nx.refl I1 H1) rm1 rfl
  | false => simp only [Bool.false_eq_true, if_false] at r ⊢; exact ⟨ρ, m1, I1, B, rs.nx n1 rm1, r⟩
theorem s_ite (hc : PT X ec (rT X W (evT Φ c))) (ha : PE X ea (rE X W (ev Φ a))) (hb : PE X eb (rE X W (ev Φ b))) : PE X (.IfExp ec ea eb pos) (rE X W (ev Φ (.ite c a b))) := by
  refine pe_imp (pe_ifExp hc ha hb) fun σ H Q ⟨ρ, m, I, B, rs, r⟩ => ?_
  refine ⟨ρ, m, I, B, rs, r.seq fun k m1 _ v I1 H1 n1 rm1 rv1 r => ?_⟩
  cases rv1
  cases k with
  | true => simp only [if_true] at r ⊢; exact ⟨ρ, m1, I1, B, rs.nx n1 rm1, r.mono (fun _ _ q _ => q) fun _ _ _ q => q⟩
  | false => simp only [Bool.false_eq_true, if_false] at r ⊢; exact ⟨ρ, m1, I1, B, rs.nx n1 rm1, r.mono (fun _ _ q _ => q) fun _ _ _ q => q⟩
end
end Sn
namespace Sn
open PySem PySem.Spec PyProof.Rows L2 HT
section
variable {prog : Program} {w : World} {A : Around} {E : Value → Shared → Prop} {s : Shared}
theorem applied_rev {sl : Addr} {vl vu vs : Value} {n : Nat} {Q : Int × Int × Nat → Shared → Prop} (hs : s.heap.IsSliceOf sl vl vu vs) (pl : IsPart vl none) (pu : IsPart vu none) (ps : IsPart vs (some (-1)))
    (h : Q ((n : Int) - 1, -1, n) s) : wpAny (model prog w) A (Builtin.Slice.sliceApplied (.ref sl) (pure (n : Int))) Q E s := by
  obtain ⟨os, hos, hcs, hds⟩ := id hs
  unfold Builtin.Slice.sliceApplied Builtin.Slice.sliceFields
  refine wpAny_bind (wpAny_bind (wpAny_field hos hds (x := vl) rfl (wpAny_bind (wpAny_field hos hds (x := vu) rfl (wpAny_bind (wpAny_field hos hds (x := vs) rfl (wpAny_pure ?_)))))))
  refine wpAny_bind (slicePart_ ps ?_)
  show wpAny _ _ (if ((-1 : Int) == 0) = true then _ else _) _ _ s
  rw [if_neg (by decide)]
  refine wpAny_bind (slicePart_ pl (wpAny_bind (slicePart_ pu (wpAny_bind (wpAny_pure ?_)))))
  show wpAny _ _ (match Builtin.Slice.sliceAdjust none none (-1) (n : Int) with | (lo, hi) => pure (lo, (-1 : Int), Builtin.Slice.slicePlaces lo hi (-1))) _ _ s
  have e1 : Builtin.Slice.sliceAdjust none none (-1) (n : Int) = ((n : Int) - 1, -1) := by
    first
      | rfl
      | (unfold Builtin.Slice.sliceAdjust; simp)
  have e2 : Builtin.Slice.slicePlaces ((n : Int) - 1) (-1) (-1) = n := by
    unfold Builtin.Slice.slicePlaces
    by_cases h0 : n = 0
    · subst h0
      simp
    · have : (-1 : Int) < (n : Int) - 1 := by omega
      simp [this]
      try omega
  rw [e1]
  show wpAny _ _ (pure ((n : Int) - 1, (-1 : Int), Builtin.Slice.slicePlaces ((n : Int) - 1) (-1) (-1))) _ _ s
  rw [e2]
  exact wpAny_pure h
theorem fm_congr {α β : Type} {f g : α → Option β} : ∀ {l : List α}, (∀ a ∈ l, f a = g a) → l.filterMap f = l.filterMap g
  | [], _ => rfl
  | a :: l, h => by
    rw [List.filterMap_cons, List.filterMap_cons, h a (by simp), fm_congr fun b hb => h b (by simp [hb])]
theorem pick_rev (xs : Array Value) : ((List.range xs.size).filterMap fun (m : Nat) => xs[((xs.size : Int) - 1 + (m : Int) * (-1)).toNat]?).toArray = xs.toList.reverse.toArray := by
  have e : ∀ m ∈ List.range xs.size, xs[((xs.size : Int) - 1 + (m : Int) * (-1)).toNat]? = ((xs[·]?) ∘ fun k => xs.size - 1 - k) m := fun m hm => by
    have := List.mem_range.mp hm
    have e : ((xs.size : Int) - 1 + (m : Int) * (-1)).toNat = xs.size - 1 - m := by omega
    rw [e]
    rfl
  rw [fm_congr e, ← List.filterMap_map, PySem.W.krv_range, List.filterMap_reverse, PySem.W.krv_all]
theorem getItem_tuple_rev {t sl : Addr} {items : Array Value} {vl vu vs : Value} {Q : Value → Shared → Prop} (ht : IsTup s.heap t items) (hs : s.heap.IsSliceOf sl vl vu vs) (pl : IsPart vl none) (pu : IsPart vu none) (ps : IsPart vs (some (-1)))
    (h : Q (.ref s.heap.objs.size) { s with heap := s.heap.push { cls := .type "tuple", data := .seq items.toList.reverse.toArray } })
    (hsz : items.size ≤ sizeLine) : wpAny (model prog w) A (getItem (.ref t) (.ref sl)) Q E s := by
  have htake : sizeOk (.seq items.toList.reverse.toArray) := by
    show items.toList.reverse.toArray.size ≤ sizeLine
    rw [List.size_toArray, List.length_reverse, Array.length_toList]
    exact hsz
  obtain ⟨os, hos, hcs, hds⟩ := id hs
  have hTs : s.TypeIs (.ref sl) "slice" := ⟨os, hos, hcs⟩
  unfold getItem
  try with_reducible refine wpAny_holding ?_
  first | refine wpAny_bind (wpAny_pure ?_) | skip
  refine wpAny_bind (wpAny_sequenceKey ht.typeIs (by decide) ?_)
  refine wpAny_bind (wpAny_callSpecial?_slot (name := Str.ofString "__getitem__") ht.typeIs PyProof.Rows.slot_tuple_getitem
    (wpAny_call_entry PyProof.Rows.slot_tuple_getitem ht.typeIs entry_tuple_getitem ?_ (args_tuple_getitem _ _)))
  show wpAny _ _ (Builtin.Tuple.tupleItemsOf (.ref t) >>= _) _ _ s
  refine wpAny_bind (tupleItemsOf_ ht ?_)
  refine wpAny_bind (wpAny_typeOf hTs ?_)
  rw [if_pos (by decide)]
  refine wpAny_bind (applied_rev hs pl pu ps ?_)
  have hno : ¬ ((((items.size : Int) - 1) == 0 && (-1 : Int) == 1 && items.size == items.size) = true) := by simp
  show wpAny _ _ (if (((items.size : Int) - 1) == 0 && (-1 : Int) == 1 && items.size == items.size) = true then _ else _) _ _ s
  rw [if_neg hno, pick_rev]
  first
    | exact wpAny_bind (m := Builtin.Tuple.tupleExact _) (wpAny_newObj_type (wpAny_pure ⟨_, rfl, wpAny_pure h⟩) htake)
    | exact wpAny_bind (m := Builtin.Tuple.tupleExact _) (wpAny_newObj_type (wpAny_bind (wpAny_pure (wpAny_pure ⟨_, rfl, wpAny_pure h⟩))) htake)
    | exact wpAny_bind (wpAny_bind (m := Builtin.Tuple.tupleExact _) (wpAny_newObj_type (wpAny_pure (wpAny_pure ⟨_, rfl, wpAny_pure h⟩)) htake))
    | exact wpAny_bind (wpAny_bind (m := Builtin.Tuple.tupleExact _) (wpAny_newObj_type (wpAny_pure ⟨_, rfl, wpAny_pure h⟩) htake))
end
/-- xs[::-1] of a list or a tuple -/
def tRevA (K : PySem.W.Frag) (te : TE) : TE := fun σ H Q => te σ H fun x H1 => ∃ a xs, x = .ref a ∧ ((SqL K H1 a xs ∧ ∀ p, H1 p = none → Q (.ref p) (upd H1 p (.lst xs.reverse))) ∨ (SqT K H1 a xs ∧ ∀ p, H1 p = none → Q (.ref p) (upd H1 p (.tup xs.reverse))))
theorem pe_revA {X : Cx} {e : Expr} {te : TE} {k : Nat} {p1 p2 p3 pos : Pos} (he : PE X e te) : PE X (.Subscript e (.Slice none none (some (.UnaryOp .USub (.Constant (.int 1) k p1) p2)) p3) pos) (tRevA X.K te) := by
  refine ⟨fun pins s σ H Q I h => ?_⟩
  refine Subscript_ (thn (he.run pins s σ H _ I h) fun v s1 ⟨x, H1, I1, r1, q1⟩ => ?_)
  obtain ⟨a, xs, ex, q⟩ := q1
  subst ex
  cases r1
  have hst : PO X (some (.UnaryOp .USub (.Constant (.int 1) k p1) p2)) (tPart (tUn (rU fun i => .int (-i)) (tC (.int 1)))) := po_some (pe_un un_neg pe_int)
  refine wpAny_Slice (thn (po_none.run pins s1 σ H1 (fun o H2 => o = none ∧ H2 = H1) I1 ⟨rfl, rfl⟩) fun vl s2 ⟨l, H2, I2, pl, el, e2⟩ => ?_)
  subst el e2
  refine thn (po_none.run pins s2 σ H2 (fun o H3 => o = none ∧ H3 = H2) I2 ⟨rfl, rfl⟩) fun vu s3 ⟨u, H3, I3, pu, eu, e3⟩ => ?_
  subst eu e3
  refine thn (hst.run pins s3 σ H3 (fun o H4 => o = some (-1) ∧ H4 = H3) I3 ⟨1, rfl, -1, rfl, rfl, rfl⟩) fun vs s4 ⟨o, H4, I4, ps, eo, e4⟩ => ?_
  subst eo e4
  have I5 : Inv X pins σ H4 { s4 with heap := s4.heap.push { cls := .type "slice", data := .fields #[vl, vu, vs] } } := I4.kept (t' := s4.toks) fun b ob q => Heap.get?_push_of_some _ q
  rcases q with ⟨hx, q⟩ | ⟨hx, q⟩
  · obtain ⟨its, r, ht, hz⟩ := I5.list hx
    have hlen := r.length
    show wpAny (model X.prog X.w) X.A (subscriptTail e (.Slice none none (some (.UnaryOp .USub (.Constant (.int 1) k p1) p2)) p3) (.ref a) (.ref s4.heap.objs.size)) (EP X pins σ Q) X.xe { s4 with heap := s4.heap.push { cls := .type "slice", data := .fields #[vl, vu, vs] } }
    refine tail_any (ops := [.ref a, .ref s4.heap.objs.size]) ht.isList.typeIs (PySem.slot_list_getitem.lookup) ?_ (by with_unfolding_all rfl)
    refine wpAny_getItem_list_slice ht.isList (Heap.IsSliceOf.new _ vl vu vs) pl pu ps (by decide) ?_ (by rw [List.size_toArray]; omega)
    rw [PySem.W.krv_pick]
    refine ⟨.ref _, _, I5.laid (t' := s4.toks) (o := .lst xs.reverse) (fun b ob q => Heap.get?_push_of_some _ q) (Nat.le_refl _) ?_, rfl, q _ (I5.hok.fresh (Nat.le_refl _))⟩
    exact ⟨by rw [List.length_reverse]; exact hz, _, 0, r.reverse, Heap.get?_push_size _ rfl⟩
  · obtain ⟨its, r, ht, hz⟩ := I5.tuple hx
    have hlen := r.length
    show wpAny (model X.prog X.w) X.A (subscriptTail e (.Slice none none (some (.UnaryOp .USub (.Constant (.int 1) k p1) p2)) p3) (.ref a) (.ref s4.heap.objs.size)) (EP X pins σ Q) X.xe { s4 with heap := s4.heap.push { cls := .type "slice", data := .fields #[vl, vu, vs] } }
    refine tail_any (ops := [.ref a, .ref s4.heap.objs.size]) ht.typeIs (PyProof.Rows.slot_tuple_getitem.lookup) ?_ (by with_unfolding_all rfl)
    refine getItem_tuple_rev ht (Heap.IsSliceOf.new _ vl vu vs) pl pu ps ?_ (by rw [List.size_toArray]; omega)
    refine ⟨.ref _, _, I5.laid (t' := s4.toks) (o := .tup xs.reverse) (fun b ob q => Heap.get?_push_of_some _ q) (Nat.le_refl _) ?_, rfl, q _ (I5.hok.fresh (Nat.le_refl _))⟩
    exact ⟨by rw [List.length_reverse]; exact hz, _, r.reverse, IsTup.new _ _⟩
end Sn
namespace Sn
open PySem PySem.Spec PyProof.Rows L2
section
variable {S : Stc} {Φ : FEnv} {W : WX} {X : Cx} {ea eb ec : Expr} {a b c : Ex} {pos : Pos}
theorem r2_mono {K : PySem.W.Frag} {g : PV → PV → Option PV} {x y : V} {H : Hp} {Q Q' : VK} (h : r2 K g x y H Q) (k : ∀ v H', KF K H' → Q v H' → Q' v H') : r2 K g x y H Q' := by
  obtain ⟨I, B, m, p, q, r, rm, r1, r2, e, kk⟩ := h
  exact ⟨I, B, m, p, q, r, rm, r1, r2, e, fun v H' s kf rv => k _ _ kf (kk v H' s kf rv)⟩
/-! ### a op b op c -/
theorem chain_rd {o o2 : CmpOp} {σ : L2.St} {H : Hp} {Q : VK} (h : rE X W (ev Φ (.chn a o b o2 c)) σ H Q) :
    tChain (r2 X.K fun p q => (cmpS o p q).map .bl) (r2 X.K fun p q => (cmpS o2 p q).map .bl) (rE X W (ev Φ a)) (rE X W (ev Φ b)) (rE X W (ev Φ c)) σ H fun v H' => KF X.K H' → Q v H' := by
  obtain ⟨ρ, m, I, B, rs, r⟩ := h
  simp only [ev] at r
  refine ⟨ρ, m, I, B, rs, r.seq fun x m1 _ v I1 H1 n1 rm1 rv1 r => ⟨ρ, m1, I1, B, rs.nx n1 rm1, r.seq fun y m2 _ u I2 H2 n2 rm2 rv2 r => ?_⟩⟩
  have rv1' := rv1.nx n2 rm1
  cases e : cmpS o (drf m2 x) (drf m2 y) with
  | none => rw [e] at r; exact r.elim
  | some k =>
    rw [e] at r
    refine ⟨I2, B, m2, _, _, .bl k, rm2, rv1'.rt rm2, rv2.rt rm2, by simp [e], fun w H' s kf rv => ?_⟩
    have rw_ : w = .bl k := by cases rv; rfl
    subst rw_
    have rmH := rm2.same s
    have nH : Nx I2 I2 H2 H' := Nx.same I2 s
    refine ⟨k, rfl, ?_⟩
    cases k with
    | false =>
      simp only [Bool.false_eq_true, if_false] at r ⊢
      exact fun _ => r _ I2 H' nH rmH (.bl _)
    | true =>
      simp only [if_true] at r ⊢
      refine ⟨ρ, m2, I2, B, (rs.nx (n1.trans n2) rm2).nx nH rmH, (r.nx nH).seq fun z m3 _ w I3 H3 n3 rm3 rv3 r => ?_⟩
      cases e2 : cmpS o2 (drf m3 y) (drf m3 z) with
      | none => rw [e2] at r; exact r.elim
      | some k2 =>
        rw [e2] at r
        have rv2' : RV X.K B I3 H3 u y := (rv2.nx nH rm2).nx n3 rmH
        exact ⟨I3, B, m3, _, _, .bl k2, rm3, rv2'.rt rm3, rv3.rt rm3, by simp [e2], fun w H4 s4 kf4 rv4 _ => rok.fin (r := .bl k2) r rm3 s4 kf4 rv4⟩
theorem s_chn {o o2 : CmpOp} (hu : X.A.units + 64 < cLine) (hm : lastMarks [o, o2] [eb, ec] = false) (ha : PE X ea (rE X W (ev Φ a))) (hb : PE X eb (rE X W (ev Φ b))) (hc : PE X ec (rE X W (ev Φ c))) :
    PE X (.Compare ea [o, o2] [eb, ec] pos) (rE X W (ev Φ (.chn a o b o2 c))) :=
  pe_imp (pe_chain (op_cmpP hu o) (op_cmpP hu o2) ha hb hc hm) fun _ _ _ h => chain_rd h
theorem rE_mono {f : Rho → Mu → Res PV} {σ : L2.St} {H : Hp} {Q Q' : VK} (h : rE X W f σ H Q) (k : ∀ v H', Q v H' → Q' v H') : rE X W f σ H Q' := by
  obtain ⟨ρ, m, I, B, rs, r⟩ := h
  exact ⟨ρ, m, I, B, rs, r.mono k fun _ _ _ q => q⟩
theorem t_chn {o o2 : CmpOp} (hu : X.A.units + 64 < cLine) (hm : lastMarks [o, o2] [eb, ec] = false) (ha : PE X ea (rE X W (ev Φ a))) (hb : PE X eb (rE X W (ev Φ b))) (hc : PE X ec (rE X W (ev Φ c))) :
    PT X (.Compare ea [o, o2] [eb, ec] pos) (rT X W (evT Φ (.chn a o b o2 c))) := by
  refine pt_imp (pt_chain (op_cmpP hu o) (op_cmpP hu o2) ha hb hc hm) fun σ H Q h => ?_
  have h2 := chain_rd (rT_of h)
  refine rE_mono h2 fun v H1 q => rE_mono q fun u H2 q => r2_mono q fun w H3 kf q => ?_
  obtain ⟨k, rfl, q⟩ := q
  refine ⟨k, rfl, ?_⟩
  cases k with
  | true =>
    simp only [if_true] at q ⊢
    exact rE_mono q fun u H2 q => r2_mono q fun w H3 kf q => q kf
  | false =>
    simp only [Bool.false_eq_true, if_false] at q ⊢
    exact q kf
/-! ### items, slices -/
theorem atI_rvs {K : PySem.W.Frag} {I B : List Addr} {H : Hp} {vs : List V} {xs : List PV} {i : Int} {r : PV} (h : RVs K B I H vs xs) (e : atI xs i = some r) : ∃ v, atI vs i = some v ∧ RV K B I H v r := by
  unfold atI at e ⊢
  rw [h.length]
  cases q : ixN xs.length i with
  | none => rw [q] at e; cases e
  | some j =>
    rw [q] at e
    exact h.get e
theorem subTail_of {prog : Program} {w : World} {A : Around} {E Q : Value → Shared → Prop} {s : Shared} {value slice : Expr} {o i : Value} {T id : String} (hl : typeLookup (.type T) "__getitem__" = pure (some (.builtin id))) (hs : subscripted slice false o i = operate [o, i] (getItem o i)) (hT : s.TypeIs o T) (h : wpAny (model prog w) A (getItem o i) Q E s) : wpAny (model prog w) A (subscriptTail value slice o i) Q E s := by
  have fin : wpAny (model prog w) A (subscripted slice false o i) (fun r s₃ => wpAny (model prog w) A (do
      letTemporaryGo value o r
      pure r) Q E s₃) E s := by
    rw [hs]
    exact wpAny_operating (wpAny_mono h (fun r s₃ h₃ => wpAny_bind (wpAny_letTemporaryGo (wpAny_pure h₃))) fun _ _ h => h)
  unfold subscriptTail
  refine wpAny_bind ?_
  rw [getitemInPython_of_ne (Shared.TypeIs.not_modules hT)]
  exact wpAny_bind (wpAny_specialOf hT hl (wpAny_pure (wpAny_bind fin)))
theorem ix_any (hu : X.A.units + 1 < cLine) : IxR X (r2 X.K itemS) := by
  intro value slice pins s σ H x y v u Q I rx ry h hs
  obtain ⟨L, B, m, p, q, r, hm, r1, r2, e, k⟩ := h
  have kf := Inv.kfree I
  have sm := Same.refl H
  cases p with
  | lst xs =>
    cases q with
    | int i =>
      obtain ⟨a, vs, rfl, h1, q1⟩ := r1.lst
      obtain rfl := r2.int
      obtain ⟨z, ez, rz⟩ := atI_rvs q1 e
      exact ix_list value slice pins s σ H _ _ v u Q I rx ry ⟨a, vs, i, z, rfl, rfl, .inl (.inl h1), ez, k _ _ sm kf rz⟩ hs
    | _ => simp [itemS] at e
  | scr xs =>
    cases q with
    | int i =>
      obtain ⟨a, vs, rfl, h1, q1⟩ := r1.scr
      obtain rfl := r2.int
      obtain ⟨z, ez, rz⟩ := atI_rvs q1 e
      exact ix_list value slice pins s σ H _ _ v u Q I rx ry ⟨a, vs, i, z, rfl, rfl, h1, ez, k _ _ sm kf rz⟩ hs
    | _ => simp [itemS] at e
  | tup g xs =>
    cases q with
    | int i =>
      obtain ⟨a, vs, rfl, h1, q1⟩ := r1.tup
      obtain rfl := r2.int
      obtain ⟨z, ez, rz⟩ := atI_rvs q1 e
      exact ix_tup value slice pins s σ H _ _ v u Q I rx ry ⟨a, vs, i, z, rfl, rfl, h1, ez, k _ _ sm kf rz⟩ hs
    | _ => simp [itemS] at e
  | dct ks xs =>
    have e' : (ks.get xs q).bind id = some r := by cases q <;> exact e
    obtain ⟨o, e1, e2⟩ := Option.bind_eq_some_iff.mp e'
    have e2 : o = some r := e2
    subst e2
    obtain ⟨oi, e3, e4⟩ := Option.map_eq_some_iff.mp e1
    obtain ⟨a, ho, vs, rfl, hdr, hdk, rvs⟩ := r1.dct
    have hg := dget_of hdr hdk (r2.key e3) e3
    obtain ⟨i, rfl, e5⟩ := Option.bind_eq_some_iff.mp e4
    obtain ⟨z, ez, rz⟩ := rvs.get e5
    rw [show ((some i).bind fun i => vs[i]?) = vs[i]? from rfl, ez] at hg
    cases rx
    exact subTail_of F.slot_dict_getitem.lookup hs (dict_typeIs I hg) (d_getItem hu I hg ry fun w' s3 I3 rw' => ⟨z, H, I3, rw', k _ _ sm kf rz⟩)
  | str z =>
    cases q with
    | int i =>
      obtain rfl := r1.str
      obtain rfl := r2.int
      simp only [itemS] at e
      split at e
      · rename_i hz
        obtain ⟨c, ec, rfl⟩ := Option.map_eq_some_iff.mp e
        exact ix_str value slice pins s σ H _ _ v u Q I rx ry ⟨z, i, c, rfl, rfl, hz, ec, k _ _ sm kf (.str _)⟩ hs
      · cases e
    | _ => simp [itemS] at e
  | _ => cases q <;> simp [itemS] at e
theorem s_item (hu : X.A.units + 1 < cLine) (hi : ixOk eb = true) (ha : PE X ea (rE X W (ev Φ a))) (hb : PE X eb (rE X W (ev Φ b))) : PE X (.Subscript ea eb pos) (rE X W (ev Φ (.pr .item (.cons false a (.cons false b .nil))))) :=
  pe_imp (pe_ix (ix_any hu) ha hb (plainIx hi)) fun _ _ _ h => by
    have h2 := two (o := .item) rfl (fun _ _ => rfl) h
    exact h2
theorem cutV_rvs {K : PySem.W.Frag} {I B : List Addr} {H : Hp} {vs : List V} {xs : List PV} {lo hi : Option Int} (h : RVs K B I H vs xs) : RVs K B I H (cutV vs lo hi) (cutP xs lo hi) := by
  unfold cutV cutP
  rw [h.length]
  exact (h.drop _).take _
def rSl (K : PySem.W.Frag) : V → Option Int → Option Int → Hp → VK → Prop := fun x lo hi H Q => ∃ I B m p r, RM K B I H m ∧ RT K B I H x p ∧ cutS lo hi p = some r ∧ ∀ v H', Same H H' → KF K H' → RV K B I H' v r → Q v H'
theorem whole_cut {α : Type} {xs : List α} {lo hi : Option Int} (h : HT.sIx xs.length 0 lo = 0 ∧ HT.sIx xs.length xs.length hi = xs.length) : (xs.drop (HT.sIx xs.length 0 lo)).take (HT.sIx xs.length xs.length hi - HT.sIx xs.length 0 lo) = xs := by
  rw [h.1, h.2]
  simp
theorem sl_any : SlR X (rSl X.K) := by
  intro pins s σ H x v vl vu lo hi sl Q I rx hs pl pu h
  obtain ⟨L, B, m, p, r, hm, r1, e, k⟩ := h
  have fin : ∀ {T id}, typeLookup (.type T) "__getitem__" = pure (some (.builtin id)) ∧ s.TypeIs v T ∧ wpAny (model X.prog X.w) X.A (getItem v (.ref sl)) (EP X pins σ fun v H' => KF X.K H' → Q v H') X.xe s →
      ∃ T id, typeLookup (.type T) "__getitem__" = pure (some (.builtin id)) ∧ s.TypeIs v T ∧ wpAny (model X.prog X.w) X.A (getItem v (.ref sl)) (EP X pins σ Q) X.xe s := fun {T id} h =>
    ⟨T, id, h.1, h.2.1, thn h.2.2 fun _ _ => ep_kf⟩
  cases p with
  | lst xs =>
    simp only [cutS, Option.some.injEq] at e
    subst e
    obtain ⟨a, vs, rfl, h1, q1⟩ := r1.lst
    obtain ⟨T, id, h⟩ := sl_list pins s σ H _ v vl vu lo hi sl (fun v H' => KF X.K H' → Q v H') I rx hs pl pu ⟨a, vs, rfl, .inl (.inl h1), fun p hp kf => k _ _ (upd_same_of hp) kf (RV.newL hm hp (cutV_rvs q1))⟩
    exact fin h
  | tup g xs =>
    simp only [cutS, Option.some.injEq] at e
    subst e
    obtain ⟨a, vs, rfl, h1', q1⟩ := r1.tupH
    have h1 : SqT X.K H a vs := h1'.sq
    obtain ⟨T, id, h⟩ := sl_tupA pins s σ H _ v vl vu lo hi sl (fun v H' => KF X.K H' → Q v H') I rx hs pl pu ⟨a, vs, rfl, h1, fun hw kf => by
      refine k _ _ (Same.refl H) kf ?_
      unfold cutP
      rw [q1.length] at hw
      rw [if_pos hw, whole_cut hw]
      exact .tup h1' q1, fun hw p hp kf => by
        rw [q1.length] at hw
        rw [if_neg hw] at k
        exact k _ _ (upd_same_of hp) kf (RV.newT hm hp (cutV_rvs q1))⟩
    exact fin h
  | str z =>
    simp only [cutS] at e
    split at e
    · rename_i hz
      cases e
      have hx := r1.str
      subst hx
      obtain ⟨T, id, h⟩ := sl_str pins s σ H _ v vl vu lo hi sl (fun v H' => KF X.K H' → Q v H') I rx hs pl pu ⟨z, rfl, hz, fun kf => k _ _ (Same.refl H) kf (.str _)⟩
      exact fin h
    · cases e
  | _ => simp [cutS] at e
/-- an optional bound -/
theorem slice_rd {σ : L2.St} {H : Hp} {Q : VK} {x : V} {lo hi : Option Int} {I B : List Addr} {m : Mu} {p r : PV} {E : XK} (rm : RM X.K B I H m) (rv : RV X.K B I H x p) (e : cutS lo hi (drf m p) = some r) (h : rok X.mg X.K (rV X.K B) B I H Q E (.ok r m)) :
    rSl X.K x lo hi H fun v H' => KF X.K H' → Q v H' := ⟨I, B, m, _, r, rm, rv.rt rm, e, fun v H' s kf rv' _ => h.fin rm s kf rv'⟩
theorem int_drf {m : Mu} {p : PV} {i : Int} (h : drf m p = .int i) : p = .int i := by
  cases p with
  | loc l => rcases drf_loc m l with ⟨xs, e⟩ | ⟨ks, xs, e⟩ | e | e <;> rw [e] at h <;> cases h
  | _ => exact h
variable {p2 : Pos}
theorem s_slc0 (ha : PE X ea (rE X W (ev Φ a))) : PE X (.Subscript ea (.Slice none none none p2) pos) (rE X W (ev Φ (.pr (.slc false false) (.cons false a .nil)))) := by
  refine pe_imp (pe_slice sl_any ha po_none po_none) fun σ H Q ⟨ρ, m, I, B, rs, r⟩ => ?_
  rw [ev_pr1] at r
  refine ⟨ρ, m, I, B, rs, r.seq fun x m1 _ v I1 H1 n1 rm1 rv1 r => ?_⟩
  obtain ⟨z, e, r⟩ := prR_some r
  exact slice_rd (σ := σ) rm1 rv1 e r
theorem s_slcL (ha : PE X ea (rE X W (ev Φ a))) (hb : PE X eb (rE X W (ev Φ b))) : PE X (.Subscript ea (.Slice (some eb) none none p2) pos) (rE X W (ev Φ (.pr (.slc true false) (.cons false a (.cons false b .nil))))) := by
  refine pe_imp (pe_slice sl_any ha (po_some hb) po_none) fun σ H Q ⟨ρ, m, I, B, rs, r⟩ => ?_
  rw [ev_pr2] at r
  refine ⟨ρ, m, I, B, rs, r.seq fun x m1 _ v I1 H1 n1 rm1 rv1 r => ⟨ρ, m1, I1, B, rs.nx n1 rm1, r.seq fun y m2 _ u I2 H2 n2 rm2 rv2 r => ?_⟩⟩
  obtain ⟨z, e, r'⟩ := prR_some r
  simp only [seesR, if_true, List.map_cons, List.map_nil] at e
  cases q : drf m2 y with
  | int i =>
    rw [q] at e
    have e2 := int_drf q
    subst e2
    cases rv2
    exact ⟨i, rfl, slice_rd (σ := σ) rm2 (rv1.nx n2 rm1) e r'⟩
  | _ => rw [q] at e; simp [prS] at e
theorem s_slcU (ha : PE X ea (rE X W (ev Φ a))) (hb : PE X eb (rE X W (ev Φ b))) : PE X (.Subscript ea (.Slice none (some eb) none p2) pos) (rE X W (ev Φ (.pr (.slc false true) (.cons false a (.cons false b .nil))))) := by
  refine pe_imp (pe_slice sl_any ha po_none (po_some hb)) fun σ H Q ⟨ρ, m, I, B, rs, r⟩ => ?_
  rw [ev_pr2] at r
  refine ⟨ρ, m, I, B, rs, r.seq fun x m1 _ v I1 H1 n1 rm1 rv1 r => ⟨ρ, m1, I1, B, rs.nx n1 rm1, r.seq fun y m2 _ u I2 H2 n2 rm2 rv2 r => ?_⟩⟩
  obtain ⟨z, e, r'⟩ := prR_some r
  simp only [seesR, if_true, List.map_cons, List.map_nil] at e
  cases q : drf m2 y with
  | int i =>
    rw [q] at e
    have e2 := int_drf q
    subst e2
    cases rv2
    exact ⟨i, rfl, slice_rd (σ := σ) rm2 (rv1.nx n2 rm1) e r'⟩
  | _ => rw [q] at e; simp [prS] at e
theorem s_slc2 (ha : PE X ea (rE X W (ev Φ a))) (hb : PE X eb (rE X W (ev Φ b))) (hc : PE X ec (rE X W (ev Φ c))) :
    PE X (.Subscript ea (.Slice (some eb) (some ec) none p2) pos) (rE X W (ev Φ (.cut2 a b c))) := by
  refine pe_imp (pe_slice sl_any ha (po_some hb) (po_some hc)) fun σ H Q ⟨ρ, m, I, B, rs, r⟩ => ?_
  simp only [ev] at r
  refine ⟨ρ, m, I, B, rs, r.seq fun x m1 _ v I1 H1 n1 rm1 rv1 r => ⟨ρ, m1, I1, B, rs.nx n1 rm1, r.seq fun y m2 _ u I2 H2 n2 rm2 rv2 r => ?_⟩⟩
  have rs2 := (rs.nx n1 rm1).nx n2 rm2
  cases y with
  | int i =>
    cases rv2
    refine ⟨i, rfl, ρ, m2, I2, B, rs2, r.seq fun w m3 _ t I3 H3 n3 rm3 rv3 r => ?_⟩
    cases w with
    | int j =>
      cases rv3
      cases e : cutS (some i) (some j) (drf m3 x) with
      | none => simp only [e] at r; exact r.elim
      | some z =>
        simp only [e] at r
        exact ⟨j, rfl, slice_rd (σ := σ) rm3 ((rv1.nx n2 rm1).nx n3 rm2) e r⟩
    | _ => exact r.elim
  | _ => exact r.elim
theorem s_rev {st : Expr} (h : isM1 st = true) (ha : PE X ea (rE X W (ev Φ a))) : PE X (.Subscript ea (.Slice none none (some st) p2) pos) (rE X W (ev Φ (.pr .rev (.cons false a .nil)))) := by
  unfold isM1 at h
  split at h
  · rename_i i k q1 q2
    have hi := of_decide_eq_true h
    subst hi
    refine pe_imp (pe_revA ha) fun σ H Q ⟨ρ, m, I, B, rs, r⟩ => ?_
    rw [ev_pr1] at r
    refine ⟨ρ, m, I, B, rs, r.seq fun x m1 _ v I1 H1 n1 rm1 rv1 r => ?_⟩
    obtain ⟨z, e, r⟩ := prR_some r
    simp only [seesR, if_true, List.map_cons, List.map_nil, prS] at e
    have rt := rv1.rt rm1
    cases hq : drf m1 x with
    | lst xs =>
      rw [hq] at e rt
      cases e
      obtain ⟨a, vs, rfl, h1, q1⟩ := rt.lst
      exact ⟨a, vs, rfl, .inl ⟨.inl (.inl h1), fun p hp kf => r.fin rm1 (upd_same_of hp) kf (RV.newL rm1 hp q1.reverse)⟩⟩
    | tup g xs =>
      rw [hq] at e rt
      cases e
      obtain ⟨a, vs, rfl, h1, q1⟩ := rt.tup
      exact ⟨a, vs, rfl, .inr ⟨h1, fun p hp kf => r.fin rm1 (upd_same_of hp) kf (RV.newT rm1 hp q1.reverse)⟩⟩
    | _ => rw [hq] at e; simp [revS] at e
  · cases h
end
end Sn
namespace Sn
open PySem PySem.Spec PyProof.Rows L2
section
variable {S : Stc} {Φ : FEnv} {W : WX} {X : Cx} {ea : Expr} {a : Ex} {as : Exs} {es : List Expr} {pos : Pos}
/-! ### argument lists, displays -/
theorem a_nil : PA X [] (rA X W (evs Φ .nil)) := pa_imp pa_nil fun σ H Q ⟨ρ, m, I, B, rs, r⟩ => r [] I H (Nx.refl I H) rs.rm .nil
theorem a_cons (hs : isStar ea = false) (ha : PE X ea (rE X W (ev Φ a))) (hr : PA X es (rA X W (evs Φ as))) : PA X (ea :: es) (rA X W (evs Φ (.cons false a as))) := by
  refine pa_imp (pa_cons ha hr (starEach_plain hs)) fun σ H Q ⟨ρ, m, I, B, rs, r⟩ => ?_
  simp only [evs, Bool.false_eq_true, if_false] at r
  refine ⟨ρ, m, I, B, rs, r.seq fun x m1 _ v I1 H1 n1 rm1 rv1 r => ⟨ρ, m1, I1, B, rs.nx n1 rm1, r.seq fun ys m2 _ us I2 H2 n2 rm2 rv2 r => ?_⟩⟩
  exact r _ I2 H2 (Nx.refl I2 H2) rm2 (.cons (rv1.nx n2 rm1) rv2)
theorem items_rt {K : PySem.W.Frag} {I B : List Addr} {H : Hp} {v : V} {p : PV} {xs : List PV} (r : RT K B I H v p) (e : itemsS p = some xs) : ∃ q vs, v = .ref q ∧ (SqT K H q vs ∨ SqL K H q vs) ∧ RVs K B I H vs xs := by
  cases p with
  | lst ys =>
    simp only [itemsS, Option.some.injEq] at e; subst e
    obtain ⟨q, vs, rfl, h, rs⟩ := r.lst
    exact ⟨q, vs, rfl, .inr (.inl (.inl h)), rs⟩
  | scr ys =>
    simp only [itemsS, Option.some.injEq] at e; subst e
    obtain ⟨q, vs, rfl, h, rs⟩ := r.scr
    exact ⟨q, vs, rfl, .inr h, rs⟩
  | tup g ys =>
    simp only [itemsS, Option.some.injEq] at e; subst e
    obtain ⟨q, vs, rfl, h, rs⟩ := r.tup
    exact ⟨q, vs, rfl, .inl h, rs⟩
  | _ => simp [itemsS] at e
theorem a_star {p : Pos} (ha : PE X ea (rE X W (ev Φ a))) (hr : PA X es (rA X W (evs Φ as))) : PA X (.Starred ea p :: es) (rA X W (evs Φ (.cons true a as))) := by
  refine pa_imp (StX.pa_star ha hr) fun σ H Q ⟨ρ, m, I, B, rs, r⟩ => ?_
  simp only [evs, if_true] at r
  refine ⟨ρ, m, I, B, rs, r.seq fun x m1 _ v I1 H1 n1 rm1 rv1 r => ?_⟩
  cases e : itemsS (drf m1 x) with
  | none => simp only [e] at r; exact r.elim
  | some xs =>
    simp only [e] at r
    obtain ⟨q, vs, rfl, hq, rvs⟩ := items_rt (rv1.rt rm1) e
    refine ⟨q, vs, rfl, hq, ρ, m1, I1, B, rs.nx n1 rm1, r.seq fun ys m2 _ us I2 H2 n2 rm2 rv2 r => ?_⟩
    exact r _ I2 H2 (Nx.refl I2 H2) rm2 ((rvs.nx n2 rm1).append rv2)
/-- a new tuple, its object known -/
theorem RV.newG {K : PySem.W.Frag} {B I : List Addr} {H : Hp} {m : Mu} (h : RM K B I H m) {p : Addr} (hp : H p = none) {vs : List V} {ps : List PV} {o : Obj} (ho : o.dict = none) (r : RVs K B I H vs ps) : RV K B I (upd H p (.frz o (.tup vs))) (.ref p) (.tup true ps) :=
  .tup (g := true) ⟨o, ho, upd_same⟩ (r.same (upd_same_of hp) h)
def tTupG (t : TA) : TE := fun σ H Q => t σ H fun xs H1 => xs.length ≤ sizeLine ∧ ∀ p o, H1 p = none → o.dict = none → Q (.ref p) (upd H1 p (.frz o (.tup xs)))
theorem pe_tupG {t : TA} {x1 : Nat} (h : PA X es t) : PE X (.Tuple es x1 pos) (tTupG t) := by
  refine ⟨fun pins s σ H Q I hq => wpAny_Tuple_spliced (thn (h.run pos pins s σ H _ I hq) fun us s1 ⟨xs, H1, I1, r, z, q⟩ => ?_)⟩
  have hf := HOk.fresh I1.hok (Nat.le_refl s1.heap.objs.size)
  refine ⟨by rw [← Vals.length r]; exact z, .ref s1.heap.objs.size, upd H1 s1.heap.objs.size (.frz { cls := .type "tuple", data := .seq us.toArray } (.tup xs)), ?_, rfl, q _ _ hf rfl⟩
  refine Inv.laid I1 (fun b u e => Heap.get?_push_of_some { cls := .type "tuple", data := .seq us.toArray } e) (Nat.le_refl _) ?_
  simp only [ObjOk]
  exact ⟨Heap.get?_push_size s1.heap rfl, z, us, r, _, Heap.get?_push_size s1.heap rfl, rfl, 0, rfl⟩
theorem s_tup {k : Nat} (ha : PA X es (rA X W (evs Φ as))) : PE X (.Tuple es k pos) (rE X W (ev Φ (.pr .tup as))) := by
  refine pe_imp (pe_tupG ha) fun σ H Q ⟨ρ, m, I, B, rs, r⟩ => ?_
  simp only [ev] at r
  refine ⟨ρ, m, I, B, rs, r.seq fun xs m1 _ vs I1 H1 n1 rm1 rv1 r => ?_⟩
  obtain ⟨z, e, r⟩ := prR_some r
  simp only [seesR, Bool.false_eq_true, if_false, prS] at e
  obtain ⟨hz, rfl⟩ := lim_some e
  exact ⟨by rw [rv1.length]; exact hz, fun p o hp ho kf => r.fin rm1 (upd_same_of hp) kf (RV.newG rm1 hp ho rv1)⟩
theorem s_ktup {k : Nat} (ha : PA X es (rA X W (evs Φ as))) : PE X (.Tuple es k pos) (rE X W (ev Φ (.pr .ktup as))) := by
  refine pe_imp (pe_tup ha) fun σ H Q ⟨ρ, m, I, B, rs, r⟩ => ?_
  simp only [ev] at r
  refine ⟨ρ, m, I, B, rs, r.seq fun xs m1 _ vs I1 H1 n1 rm1 rv1 r => ?_⟩
  obtain ⟨z, e, r⟩ := prR_some r
  simp only [seesR, Bool.false_eq_true, if_false, prS] at e
  obtain ⟨hz, rfl⟩ := lim_some e
  exact ⟨by rw [rv1.length]; exact hz, fun p hp kf => r.fin rm1 (upd_same_of hp) kf (RV.newT rm1 hp rv1)⟩
section
variable {K : PySem.W.Frag} {I B : List Addr} {H : Hp} {m : Mu}
theorem Nx.pushO (h : RM K B I H m) {p : Addr} (hp : H p = none) {o : HO} : Nx I (I ++ [p]) H (upd H p o) := ⟨⟨[p], rfl, fun a ha => by simp at ha; subst ha; exact hp⟩, fun a o e _ => upd_same_of hp _ _ e, fun a ha => by
    by_cases hne : a = p
    · subst hne; exact hp
    · rw [upd_ne hne] at ha; exact ha⟩
/-- a new thing that changes -/
theorem RM.pushO (h : RM K B I H m) {p : Addr} (hp : H p = none) {o : HO} {mo : MO} (hm : MOk K B (I ++ [p]) (upd H p o) p mo) : RM K B (I ++ [p]) (upd H p o) (m ++ [mo]) := by
  have hI : p ∉ I := h.new hp
  have n : Nx I (I ++ [p]) H (upd H p o) := Nx.pushO h hp
  refine ⟨by simp [h.len], ?_, fun a ha => ?_, fun a ha => ?_, fun l a o e1 e2 => ?_⟩
  · rw [List.nodup_append]
    exact ⟨h.nod, by simp, fun a ha b hb => by simp at hb; subst hb; exact fun e => hI (e ▸ ha)⟩
  · intro e
    exact h.trB a ha (n.dom a e)
  · simp only [List.mem_append, List.mem_singleton, not_or]
    exact ⟨h.dis a ha, fun e => h.newB hp (e ▸ ha)⟩
  · by_cases hl : l < I.length
    · rw [List.getElem?_append_left hl] at e1
      rw [List.getElem?_append_left (by rw [← h.len]; exact hl)] at e2
      exact (h.at_ l a o e1 e2).to (fun q e3 => upd_same_of hp _ _ e3) fun _ _ r => r.nx n h
    · have hl2 : l = I.length := by
        have := (List.getElem?_eq_some_iff.mp e1).1
        simp at this; omega
      subst hl2
      rw [List.getElem?_append_right (Nat.le_refl _)] at e1
      rw [h.len, List.getElem?_append_right (Nat.le_refl _)] at e2
      simp at e1 e2
      subst e1 e2
      exact hm
/-- a list becomes a thing that changes -/
theorem RM.push (h : RM K B I H m) {p : Addr} (hp : H p = none) {vs : List V} {xs : List PV} (rs : RVs K B I H vs xs) : Nx I (I ++ [p]) H (upd H p (.lst vs)) ∧ RM K B (I ++ [p]) (upd H p (.lst vs)) (m ++ [.lst xs]) :=
  have n := Nx.pushO h hp
  ⟨n, h.pushO hp ⟨vs, upd_same, rs.nx n h⟩⟩
end
/-- two lists, a new one that will change -/
def r2T (K : PySem.W.Frag) : R2 := fun x y H Q => ∃ I B m xs ys, RM K B I H m ∧ RT K B I H x (.lst xs) ∧ RT K B I H y (.lst ys) ∧ xs.length + ys.length ≤ sizeLine ∧
  ∀ p vs, H p = none → KF K (upd H p (.lst vs)) → RVs K B I H vs (xs ++ ys) → Q (.ref p) (upd H p (.lst vs))
theorem op_addT : OpR X (binaryOp .Add) (r2T X.K) := by
  intro pins s σ H x y v u Q I rx ry ⟨L, B, m, xs, ys, hm, r1, r2, hz, k⟩
  obtain ⟨a, vs, rfl, h1, q1⟩ := r1.lst
  obtain ⟨b, ws, rfl, h2, q2⟩ := r2.lst
  refine thn (op_cat pins s σ H _ _ v u (fun v H' => KF X.K H' → Q v H') I rx ry ⟨a, b, vs, ws, rfl, rfl, h1, h2, by rw [q1.length, q2.length]; exact hz, fun p hp kf' => ?_⟩) fun _ _ => ep_kf
  exact k p _ hp kf' (q1.append q2)
theorem s_addT {eb : Expr} {b : Ex} (ha : PE X ea (rE X W (ev Φ a))) (hb : PE X eb (rE X W (ev Φ b))) : PE X (.BinOp ea .Add eb pos) (rE X W (ev Φ (.thw (.pr (.bin .Add) (.cons false a (.cons false b .nil)))))) := by
  refine pe_imp (pe_op op_addT ha hb) fun σ H Q ⟨ρ, m, I, B, rs, r⟩ => ?_
  rw [ev, ev_pr2, bind_assoc] at r
  simp only [bind_assoc] at r
  refine ⟨ρ, m, I, B, rs, r.seq fun x m1 _ v I1 H1 n1 rm1 rv1 r => ⟨ρ, m1, I1, B, rs.nx n1 rm1, r.seq fun y m2 _ u I2 H2 n2 rm2 rv2 r => ?_⟩⟩
  unfold prR at r
  simp only [seesR, if_true, List.map_cons, List.map_nil, prS] at r
  cases hb' : binS .Add (drf m2 x) (drf m2 y) with
  | none => rw [hb'] at r; exact r.elim
  | some z =>
    rw [hb'] at r
    simp only [oRes, ok_bind] at r
    rcases binS_add hb' with ⟨i, j, e1, e2, rfl⟩ | ⟨i, j, e1, e2, hz, rfl⟩ | ⟨xs, ys, e1, e2, hz, rfl⟩ | ⟨g, g', xs, ys, e1, e2, hz, rfl⟩
    · exact r.elim
    · exact r.elim
    · have t1 := (rv1.nx n2 rm1).rt rm2
      have t2 := rv2.rt rm2
      rw [e1] at t1
      rw [e2] at t2
      refine ⟨I2, B, m2, xs, ys, rm2, t1, t2, hz, fun p vs hp kf rvs _ => ?_⟩
      obtain ⟨n, rm⟩ := rm2.push hp rvs
      exact r _ _ _ n rm (.loc (by rw [← rm2.len]; simp))
    · exact r.elim
theorem s_dnew {tk : Bool} : PE X (.Dict [] [] pos) (rE X W (ev Φ (.dnew tk))) := by
  cases tk with
  | true =>
    refine pe_imp pe_dnewT fun σ H Q ⟨ρ, m, I, B, rs, r⟩ p hp kf => ?_
    simp only [ev, if_true] at r
    exact r _ _ _ (Nx.pushO rs.rm hp) (rs.rm.pushO hp ⟨_, [], upd_same, .inr ⟨[], rfl, rfl, rfl⟩, .nil⟩) (.loc (by rw [← rs.rm.len]; simp))
  | false =>
    refine pe_imp pe_dnewK fun σ H Q ⟨ρ, m, I, B, rs, r⟩ p hp kf => ?_
    simp only [ev, Bool.false_eq_true, if_false] at r
    exact r _ _ _ (Nx.pushO rs.rm hp) (rs.rm.pushO hp ⟨_, [], upd_same, .inl ⟨[], rfl, rfl, rfl⟩, .nil⟩) (.loc (by rw [← rs.rm.len]; simp))
theorem s_dnewF : PE X (.Dict [] [] pos) (rE X W (ev Φ (.cst (.dct (.k []) [])))) := by
  refine pe_imp pe_dnewK fun σ H Q ⟨ρ, m, I, B, rs, r⟩ p hp kf => ?_
  simp only [ev] at r
  exact r _ _ _ (Nx.same I (upd_same_of hp)) (rs.rm.same (upd_same_of hp)) (.dct (.inl upd_same) (rs.rm.new hp) (rs.rm.newB hp) (.inl ⟨[], rfl, rfl, rfl⟩) .nil)
theorem s_lstT (ha : PA X es (rA X W (evs Φ as))) : PE X (.List es pos) (rE X W (ev Φ (.thw (.pr .lst as)))) := by
  refine pe_imp (pe_lst ha) fun σ H Q ⟨ρ, m, I, B, rs, r⟩ => ?_
  simp only [ev, bind_assoc] at r
  refine ⟨ρ, m, I, B, rs, r.seq fun xs m1 _ vs I1 H1 n1 rm1 rv1 r => ?_⟩
  have hz : vs.length ≤ sizeLine ∧ rok X.mg X.K (rV X.K B) B I1 H1 Q (fun c d H' => W c d σ H') (.ok (.loc m1.length) (m1 ++ [.lst xs])) := by
    unfold prR at r
    simp only [seesR, Bool.false_eq_true, if_false, prS] at r
    unfold lim at r
    split at r
    · rename_i hz
      exact ⟨by rw [rv1.length]; exact hz, r⟩
    · exact r.elim
  refine ⟨hz.1, fun p hp kf => ?_⟩
  obtain ⟨n, rm⟩ := rm1.push hp rv1
  exact hz.2 _ _ _ n rm (.loc (by rw [← rm1.len]; simp))
theorem s_lst (ha : PA X es (rA X W (evs Φ as))) : PE X (.List es pos) (rE X W (ev Φ (.pr .lst as))) := by
  refine pe_imp (pe_lst ha) fun σ H Q ⟨ρ, m, I, B, rs, r⟩ => ?_
  simp only [ev] at r
  refine ⟨ρ, m, I, B, rs, r.seq fun xs m1 _ vs I1 H1 n1 rm1 rv1 r => ?_⟩
  obtain ⟨z, e, r⟩ := prR_some r
  simp only [seesR, Bool.false_eq_true, if_false, prS] at e
  obtain ⟨hz, rfl⟩ := lim_some e
  exact ⟨by rw [rv1.length]; exact hz, fun p hp kf => r.fin rm1 (upd_same_of hp) kf (RV.newL rm1 hp rv1)⟩
/-! ### built-in functions by values -/
def rC (K : PySem.W.Frag) (g : List PV → Option PV) : List V → Hp → VK → Prop := fun xs H Q => ∃ I B m ps r, RM K B I H m ∧ RVs K B I H xs ps ∧ g (ps.map (drf m)) = some r ∧ ∀ v H', Same H H' → KF K H' → RV K B I H' v r → Q v H'
theorem tys_ok {K : PySem.W.Frag} {I B : List Addr} {H : Hp} {v : V} {p : PV} {t : String} (r : RT K B I H v p) (e : tyS p = some t) : TyX K H v (.type t) := by
  cases p with
  | non => cases e; obtain rfl := r.non; exact .base .non
  | bl b => cases e; obtain rfl := r.bl; exact .base (.bl _)
  | int i => cases e; obtain rfl := r.int; exact .base (.int _)
  | str z => cases e; obtain rfl := r.str; exact .base (.str _)
  | tup g xs =>
    cases e
    obtain ⟨q, vs, rfl, h, _⟩ := r.tupH
    cases g with
    | true =>
      obtain ⟨o, _, h⟩ := h
      exact .fTuple h
    | false => exact .base (.tup h)
  | lst xs =>
    cases e
    obtain ⟨q, vs, rfl, h, _⟩ := r.lst
    exact .base (.lst h)
  | dct ks xs =>
    cases e
    obtain ⟨a, o, vs, rfl, h, d, _⟩ := r.dct
    rcases h with h | ⟨es, fo, rfl, h⟩
    · rcases d with ⟨es, rfl, _, _⟩ | ⟨es, rfl, _, _⟩
      · exact .base (.dK h)
      · exact .base (.dT h)
    · exact .fDict h
  | scr xs =>
    cases e
    obtain ⟨q, vs, rfl, h, _⟩ := r.scr
    rcases h with (h | ⟨o, h⟩) | ⟨o, its, n, h, hc, _⟩
    · exact .base (.lst h)
    · exact .base (.frz h)
    · exact .kList h hc
  | _ => simp [tyS] at e
theorem ty_drf {m : Mu} {p : PV} {t : String} (h : drf m p = .ty t) : p = .ty t := by
  cases p with
  | loc l => rcases drf_loc m l with ⟨xs, e⟩ | ⟨ks, xs, e⟩ | e | e <;> rw [e] at h <;> cases h
  | _ => exact h
theorem cr_kf {u : Value} {r r' : List V → Hp → VK → Prop} (h : CallR X u r) (k : ∀ xs H Q, KF X.K H → r' xs H Q → r xs H fun v H' => KF X.K H' → Q v H') : CallR X u r' :=
  fun pins s σ H xs us Q I rv q => thn (h pins s σ H xs us _ I rv (k xs H Q (Inv.kfree I) q)) fun _ _ => ep_kf
theorem int_rt {K : PySem.W.Frag} {B I : List Addr} {H : Hp} {m : Mu} {v : V} {p : PV} {i : Int} (rm : RM K B I H m) (r : RV K B I H v p) (h : drf m p = .int i) : v = .int i := by
  have := r.rt rm
  rw [h] at this
  exact this.int
theorem str_rt {K : PySem.W.Frag} {B I : List Addr} {H : Hp} {m : Mu} {v : V} {p : PV} {i : Str} (rm : RM K B I H m) (r : RV K B I H v p) (h : drf m p = .str i) : v = .str i := by
  have := r.rt rm
  rw [h] at this
  exact this.str
theorem lsS_rt {K : PySem.W.Frag} {B I : List Addr} {H : Hp} {v : V} {p : PV} {xs : List PV} (r : RT K B I H v p) (e : lsS p = some xs) : ∃ q vs, v = .ref q ∧ SqL K H q vs ∧ RVs K B I H vs xs := by
  cases p with
  | lst ys =>
    simp only [lsS, Option.some.injEq] at e; subst e
    obtain ⟨q, vs, rfl, h, rs⟩ := r.lst
    exact ⟨q, vs, rfl, .inl (.inl h), rs⟩
  | scr ys =>
    simp only [lsS, Option.some.injEq] at e; subst e
    obtain ⟨q, vs, rfl, h, rs⟩ := r.scr
    exact ⟨q, vs, rfl, h, rs⟩
  | _ => simp [lsS] at e
theorem allO_ints {K : PySem.W.Frag} {B I : List Addr} {H : Hp} : ∀ {vs : List V} {xs : List PV} {is : List Int}, RVs K B I H vs xs → allO intS xs = some is → vs = is.map V.int
  | _, _, _, .nil, e => by simp [allO] at e; subst e; rfl
  | _, _, _, .cons r rs, e => by
    simp only [allO] at e
    split at e
    · rename_i a as e1 e2
      cases e
      rw [allO_ints rs e2]
      cases r <;> simp [intS] at e1
      subst e1; rfl
    · cases e
theorem allO_bls {K : PySem.W.Frag} {B I : List Addr} {H : Hp} : ∀ {vs : List V} {xs : List PV} {is : List Bool}, RVs K B I H vs xs → allO blS xs = some is → vs = is.map V.bl
  | _, _, _, .nil, e => by simp [allO] at e; subst e; rfl
  | _, _, _, .cons r rs, e => by
    simp only [allO] at e
    split at e
    · rename_i a as e1 e2
      cases e
      rw [allO_bls rs e2]
      cases r <;> simp [blS] at e1
      subst e1; rfl
    · cases e
theorem allO_strs {K : PySem.W.Frag} {B I : List Addr} {H : Hp} : ∀ {vs : List V} {xs : List PV} {is : List Str}, RVs K B I H vs xs → allO strS xs = some is → vs = is.map V.str
  | _, _, _, .nil, e => by simp [allO] at e; subst e; rfl
  | _, _, _, .cons r rs, e => by
    simp only [allO] at e
    split at e
    · rename_i a as e1 e2
      cases e
      rw [allO_strs rs e2]
      cases r <;> simp [strS] at e1
      subst e1; rfl
    · cases e
theorem maxI_eq : ∀ (r : List Int) (a : Int), maxI a r ∈ a :: r ∧ ∀ y ∈ a :: r, y ≤ maxI a r
  | [], a => by simp [maxI]
  | b :: r, a => by
    simp only [maxI]
    obtain ⟨h1, h2⟩ := maxI_eq r (if a < b then b else a)
    by_cases hab : a < b
    · rw [if_pos hab] at h1 h2 ⊢
      refine ⟨List.mem_cons_of_mem _ h1, fun y hy => ?_⟩
      rcases List.mem_cons.mp hy with rfl | hy
      · exact Int.le_trans (Int.le_of_lt hab) (h2 b (by simp))
      · exact h2 y hy
    · rw [if_neg hab] at h1 h2 ⊢
      refine ⟨?_, fun y hy => ?_⟩
      · rcases List.mem_cons.mp h1 with h | h
        · rw [h]; simp
        · exact List.mem_cons_of_mem _ (List.mem_cons_of_mem _ h)
      · rcases List.mem_cons.mp hy with rfl | hy
        · exact h2 _ (by simp)
        · rcases List.mem_cons.mp hy with rfl | hy
          · exact Int.le_trans (Int.not_lt.mp hab) (h2 a (by simp))
          · exact h2 y (List.mem_cons_of_mem _ hy)
theorem minI_eq : ∀ (r : List Int) (a : Int), minI a r ∈ a :: r ∧ ∀ y ∈ a :: r, minI a r ≤ y
  | [], a => by simp [minI]
  | b :: r, a => by
    simp only [minI]
    obtain ⟨h1, h2⟩ := minI_eq r (if b < a then b else a)
    by_cases hab : b < a
    · rw [if_pos hab] at h1 h2 ⊢
      refine ⟨List.mem_cons_of_mem _ h1, fun y hy => ?_⟩
      rcases List.mem_cons.mp hy with rfl | hy
      · exact Int.le_trans (h2 b (by simp)) (Int.le_of_lt hab)
      · exact h2 y hy
    · rw [if_neg hab] at h1 h2 ⊢
      refine ⟨?_, fun y hy => ?_⟩
      · rcases List.mem_cons.mp h1 with h | h
        · rw [h]; simp
        · exact List.mem_cons_of_mem _ (List.mem_cons_of_mem _ h)
      · rcases List.mem_cons.mp hy with rfl | hy
        · exact h2 _ (by simp)
        · rcases List.mem_cons.mp hy with rfl | hy
          · exact Int.le_trans (h2 a (by simp)) (Int.not_lt.mp hab)
          · exact h2 y (List.mem_cons_of_mem _ hy)
/-- one argument -/
theorem rC1 {K : PySem.W.Frag} {f : Bf} {g : PV → Option PV} (hg : ∀ ps, (∀ p, ps ≠ [p]) → bltS f ps = none) (h1 : ∀ p, bltS f [p] = g p) {xs : List V} {H : Hp} {Q : VK} (h : rC K (bltS f) xs H Q) :
    ∃ x p r I B m, xs = [x] ∧ RM K B I H m ∧ RT K B I H x p ∧ g p = some r ∧ ∀ v H', Same H H' → KF K H' → RV K B I H' v r → Q v H' := by
  obtain ⟨I, B, m, ps, r, rm, rvs, e, k⟩ := h
  match ps, rvs with
  | [], .nil => rw [List.map_nil, hg _ (by simp)] at e; cases e
  | [p], .cons rv .nil => exact ⟨_, drf m p, r, I, B, m, rfl, rm, rv.rt rm, by rw [← h1]; exact e, k⟩
  | p :: q :: t, .cons _ (.cons _ _) => rw [hg _ (by simp)] at e; cases e
theorem bf_abs : CallR X (.builtin "abs") (rC X.K (bltS .abs)) := by
  refine cr_kf call_abs fun xs H Q kf h => ?_
  obtain ⟨x, p, r, I, B, m, rfl, rm, rt, e, k⟩ := rC1 (f := .abs) (g := fun p => bltS .abs [p]) (fun ps h => by
    match ps with
    | [] => rfl
    | [p] => exact absurd rfl (h p)
    | _ :: _ :: _ => simp [bltS]) (fun _ => rfl) h
  cases p <;> simp [bltS] at e
  subst e
  obtain rfl := rt.int
  exact ⟨_, rfl, fun kf' => k _ _ (Same.refl H) kf' (.int _)⟩
theorem bf_int : CallR X (.type "int") (rC X.K (bltS .int)) := by
  refine cr_kf call_int1 fun xs H Q kf h => ?_
  obtain ⟨x, p, r, I, B, m, rfl, rm, rt, e, k⟩ := rC1 (f := .int) (g := fun p => bltS .int [p]) (fun ps h => by
    match ps with
    | [] => rfl
    | [p] => exact absurd rfl (h p)
    | _ :: _ :: _ => simp [bltS]) (fun _ => rfl) h
  cases p <;> simp [bltS] at e
  subst e
  obtain rfl := rt.int
  exact .inl ⟨_, rfl, fun kf' => k _ _ (Same.refl H) kf' (.int _)⟩
theorem bf_str : CallR X (.type "str") (rC X.K (bltS .str)) := by
  refine cr_kf (CallR.or call_str_int SkE.call_str_str) fun xs H Q kf h => ?_
  obtain ⟨x, p, r, I, B, m, rfl, rm, rt, e, k⟩ := rC1 (f := .str) (g := fun p => bltS .str [p]) (fun ps h => by
    match ps with
    | [] => rfl
    | [p] => exact absurd rfl (h p)
    | _ :: _ :: _ => simp [bltS]) (fun _ => rfl) h
  cases p <;> simp [bltS] at e
  · obtain ⟨hl, rfl⟩ := e
    obtain rfl := rt.int
    exact .inl ⟨_, rfl, hl, fun kf' => k _ _ (Same.refl H) kf' (.str _)⟩
  · subst e
    obtain rfl := rt.str
    exact .inr ⟨_, rfl, fun kf' => k _ _ (Same.refl H) kf' (.str _)⟩
theorem call_lenR : CallR X (.builtin "len") (fun xs H Q => ∃ a kvs, xs = [V.ref a] ∧ Rd H a (.dK kvs) ∧ Q (.int (kvs.length : Nat)) H) := by
  intro pins s σ H xs us Q I r ⟨a, kvs, hx, ha, q⟩
  subst hx
  rw [Vals.ref1 r]
  exact d_len I ha fun t s' I' => ⟨.int _, H, I', ⟨t, rfl⟩, q⟩
theorem bf_len : CallR X (.builtin "len") (rC X.K (bltS .len)) := by
  refine cr_kf (CallR.or call_len (CallR.or call_lenR call_len_dT)) fun xs H Q kf h => ?_
  obtain ⟨x, p, r, I, B, m, rfl, rm, rt, e, k⟩ := rC1 (f := .len) (g := lenS) (fun ps h => by
    match ps with
    | [] => rfl
    | [p] => exact absurd rfl (h p)
    | _ :: _ :: _ => simp [bltS]) (fun _ => rfl) h
  cases p <;> simp [lenS] at e
  · obtain ⟨hz, rfl⟩ := e
    obtain rfl := rt.str
    exact .inl ⟨_, _, rfl, ⟨hz, rfl⟩, fun kf' => k _ _ (Same.refl H) kf' (.int _)⟩
  · subst e
    obtain ⟨q, vs, rfl, h1, rs⟩ := rt.tup
    exact .inl ⟨_, _, rfl, .inr ⟨vs, h1, rs.length.symm⟩, fun kf' => k _ _ (Same.refl H) kf' (.int _)⟩
  · subst e
    obtain ⟨q, vs, rfl, h1, rs⟩ := rt.lst
    exact .inl ⟨_, _, rfl, .inl ⟨vs, .inl (.inl h1), rs.length.symm⟩, fun kf' => k _ _ (Same.refl H) kf' (.int _)⟩
  · subst e
    obtain ⟨q, vs, rfl, h1, rs⟩ := rt.scr
    exact .inl ⟨_, _, rfl, .inl ⟨vs, h1, rs.length.symm⟩, fun kf' => k _ _ (Same.refl H) kf' (.int _)⟩
  · subst e
    obtain ⟨q, o, vs, rfl, hd, hk, rs⟩ := rt.dct
    have hl := rs.length
    rcases hk with ⟨es, rfl, rfl, rfl⟩ | ⟨es, rfl, rfl, rfl⟩
    · refine .inr (.inl ⟨q, es, rfl, hd.elim .inl fun ⟨_, fo, _, h⟩ => .inr ⟨fo, h⟩, fun kf' => ?_⟩)
      rw [List.length_map] at hl
      rw [hl]
      exact k _ _ (Same.refl H) kf' (.int _)
    · refine .inr (.inr ⟨q, es, rfl, hd.elim id fun ⟨_, _, h, _⟩ => (by cases h), fun kf' => ?_⟩)
      rw [List.length_map] at hl
      rw [hl]
      exact k _ _ (Same.refl H) kf' (.int _)
theorem bf_all (hc : X.calm = true) : CallR X (.builtin "all") (rC X.K (bltS .all)) := by
  refine cr_kf (cr_all hc) fun xs H Q kf h => ?_
  obtain ⟨x, p, r, I, B, m, rfl, rm, rt, e, k⟩ := rC1 (f := .all) (g := fun p => ((lsS p).bind (allO blS)).map fun bs => .bl (bs.all id)) (fun ps h => by
    match ps with
    | [] => rfl
    | [p] => exact absurd rfl (h p)
    | _ :: _ :: _ => simp [bltS]) (fun _ => rfl) h
  simp only [Option.map_eq_some_iff, Option.bind_eq_some_iff] at e
  obtain ⟨bs, ⟨ys, e1, e2⟩, rfl⟩ := e
  obtain ⟨q, vs, rfl, h1, rs⟩ := lsS_rt rt e1
  obtain rfl := allO_bls rs e2
  exact ⟨_, _, rfl, h1, fun kf' => k _ _ (Same.refl H) kf' (.bl _)⟩
theorem bf_any (hc : X.calm = true) : CallR X (.builtin "any") (rC X.K (bltS .any)) := by
  refine cr_kf (cr_any hc) fun xs H Q kf h => ?_
  obtain ⟨x, p, r, I, B, m, rfl, rm, rt, e, k⟩ := rC1 (f := .any) (g := fun p => ((lsS p).bind (allO blS)).map fun bs => .bl (bs.any id)) (fun ps h => by
    match ps with
    | [] => rfl
    | [p] => exact absurd rfl (h p)
    | _ :: _ :: _ => simp [bltS]) (fun _ => rfl) h
  simp only [Option.map_eq_some_iff, Option.bind_eq_some_iff] at e
  obtain ⟨bs, ⟨ys, e1, e2⟩, rfl⟩ := e
  obtain ⟨q, vs, rfl, h1, rs⟩ := lsS_rt rt e1
  obtain rfl := allO_bls rs e2
  exact ⟨_, _, rfl, h1, fun kf' => k _ _ (Same.refl H) kf' (.bl _)⟩
theorem bf_sum (hc : X.calm = true) : CallR X (.builtin "sum") (rC X.K (bltS .sum)) := by
  refine cr_kf (cr_sum hc) fun xs H Q kf h => ?_
  obtain ⟨x, p, r, I, B, m, rfl, rm, rt, e, k⟩ := rC1 (f := .sum) (g := fun p => ((lsS p).bind (allO intS)).map fun is => .int is.sum) (fun ps h => by
    match ps with
    | [] => rfl
    | [p] => exact absurd rfl (h p)
    | _ :: _ :: _ => simp [bltS]) (fun _ => rfl) h
  simp only [Option.map_eq_some_iff, Option.bind_eq_some_iff] at e
  obtain ⟨bs, ⟨ys, e1, e2⟩, rfl⟩ := e
  obtain ⟨q, vs, rfl, h1, rs⟩ := lsS_rt rt e1
  obtain rfl := allO_ints rs e2
  exact ⟨_, _, rfl, h1, fun kf' => k _ _ (Same.refl H) kf' (.int _)⟩
theorem keys_k {K : PySem.W.Frag} {B I : List Addr} {H : Hp} : ∀ ks : List Key, RVs K B I H (ks.map kV) (ks.map keyP)
  | [] => .nil
  | .inl i :: r => .cons (.int i) (keys_k r)
  | .inr i :: r => .cons (.str i) (keys_k r)
theorem keys_t {K : PySem.W.Frag} {B I : List Addr} {H : Hp} : ∀ {kvs : List (List Key × V)} {bs : List Addr}, IsKeys H kvs bs → RVs K B I H (bs.map V.ref) ((kvs.map (·.1)).map fun k => .tup false (k.map keyP))
  | _, _, .nil => .nil
  | _, _, .cons h hs => .cons (.tup (g := false) h (keys_k _)) (keys_t hs)
theorem bf_list (hc : X.calm = true) : CallR X (.type "list") (rC X.K (bltS .list)) := by
  refine cr_kf (CallR.or call_list_of (CallR.or (call_listD hc) (call_list_dT hc))) fun xs H Q kf h => ?_
  obtain ⟨x, p, r, I, B, m, rfl, rm, rt, e, k⟩ := rC1 (f := .list) (g := fun p => bltS .list [p]) (fun ps h => by
    match ps with
    | [] => rfl
    | [p] => exact absurd rfl (h p)
    | _ :: _ :: _ => simp [bltS]) (fun _ => rfl) h
  have seq : ∀ ys, itemsS p = some ys → r = .lst ys → (∃ p ys, [x] = [.ref p] ∧ (SqL X.K H p ys ∨ SqT X.K H p ys) ∧ ∀ l, H l = none → KF X.K (upd H l (.lst ys)) → Q (.ref l) (upd H l (.lst ys))) := by
    rintro ys e1 rfl
    obtain ⟨q, vs, rfl, hq, rs⟩ := items_rt rt e1
    exact ⟨q, vs, rfl, hq.symm, fun l hl kf' => k _ _ (upd_same_of hl) kf' (RV.newL rm hl rs)⟩
  cases p with
  | dct ks xs =>
    have e : r = .lst ks.keys := (Option.some.inj e).symm
    subst e
    obtain ⟨q, o, vs, rfl, hd, hk, rs⟩ := rt.dct
    rcases hk with ⟨es, rfl, rfl, rfl⟩ | ⟨es, rfl, rfl, rfl⟩
    · refine .inr (.inl ⟨q, es, rfl, hd.elim .inl fun ⟨_, fo, _, h⟩ => .inr ⟨fo, h⟩, fun l hl kf' => ?_⟩)
      have := keys_k (K := X.K) (B := B) (I := I) (H := H) (es.map (·.1))
      rw [List.map_map] at this
      exact k _ _ (upd_same_of hl) kf' (RV.newL rm hl this)
    · exact .inr (.inr ⟨q, es, rfl, hd.elim .inl fun ⟨_, _, h, _⟩ => (by cases h), fun l bs hl hb kf' => k _ _ (upd_same_of hl) kf' (RV.newL rm hl (keys_t hb))⟩)
  | tup g ys => exact .inl (seq ys rfl (Option.some.inj e).symm)
  | lst ys => exact .inl (seq ys rfl (Option.some.inj e).symm)
  | scr ys => exact .inl (seq ys rfl (Option.some.inj e).symm)
  | _ => simp [bltS, itemsS] at e
def rTupG (K : PySem.W.Frag) : List V → Hp → VK → Prop := fun xs H Q => ∃ p ys, xs = [.ref p] ∧ SqL K H p ys ∧ ∀ l o, H l = none → o.dict = none → Q (.ref l) (upd H l (.frz o (.tup ys)))
theorem call_tupleG : CallR X (.type "tuple") (rTupG X.K) := by
  intro pins s σ H xs us Q I r ⟨p, ys, hx, hq, q⟩
  subst hx
  rw [Vals.ref1 r]
  obtain ⟨its, r', pl, hz⟩ := Inv.list I hq
  have hlen := Vals.length r'
  refine call_tuple_list (PlainL.isList pl) (fun h' kp => ?_) (by simpa [← hlen] using hz)
  have I1 := Inv.kept (t' := s.toks) I kp
  have hf := HOk.fresh I1.hok (Nat.le_refl h'.objs.size)
  refine ⟨.ref h'.objs.size, upd H h'.objs.size (.frz { cls := .type "tuple", data := .seq its.toArray } (.tup ys)), ?_, rfl, q _ _ hf rfl⟩
  refine Inv.laid (s := ⟨h', s.gens, s.drawn, s.toks, s.os⟩) I1 (fun b o e => Heap.get?_push_of_some { cls := .type "tuple", data := .seq its.toArray } e) (Nat.le_refl h'.objs.size) ?_
  simp only [ObjOk]
  exact ⟨Heap.get?_push_size h' rfl, by rw [hlen]; simpa [← hlen] using hz, its, r', _, Heap.get?_push_size h' rfl, rfl, 0, rfl⟩
theorem bf_tuple : CallR X (.type "tuple") (rC X.K (bltS .tuple)) := by
  refine cr_kf (CallR.or call_tupleG call_tupleT) fun xs H Q kf h => ?_
  obtain ⟨x, p, r, I, B, m, rfl, rm, rt, e, k⟩ := rC1 (f := .tuple) (g := fun p => bltS .tuple [p]) (fun ps h => by
    match ps with
    | [] => rfl
    | [p] => exact absurd rfl (h p)
    | _ :: _ :: _ => simp [bltS]) (fun _ => rfl) h
  cases p <;> simp [bltS, lsS] at e
  · subst e
    obtain ⟨q, vs, rfl, hq, rs⟩ := rt.tupH
    exact .inr ⟨q, vs, rfl, hq.sq, fun kf' => k _ _ (Same.refl H) kf' (.tup hq rs)⟩
  · subst e
    obtain ⟨q, vs, rfl, hq, rs⟩ := rt.lst
    exact .inl ⟨q, vs, rfl, .inl (.inl hq), fun l o hl ho kf' => k _ _ (upd_same_of hl) kf' (RV.newG rm hl ho rs)⟩
  · subst e
    obtain ⟨q, vs, rfl, hq, rs⟩ := rt.scr
    exact .inl ⟨q, vs, rfl, hq, fun l o hl ho kf' => k _ _ (upd_same_of hl) kf' (RV.newG rm hl ho rs)⟩
theorem kitAny_cons (K : PySem.W.Frag) (t u : Value) (us : List Value) : PySem.W.kitAny K t (u :: us) = match PySem.W.kitOne K t u with
    | some true => some true
    | some false => PySem.W.kitAny K t us
    | none => none := rfl
theorem anyK_ok {K : PySem.W.Frag} {s : String} : ∀ {ts : List String} {b : Bool}, anyK s ts = some b → PySem.W.kitAny K (.type s) (ts.map Value.type) = some b
  | [], b, h => by simp [anyK] at h; subst h; rfl
  | t :: r, b, h => by
    simp only [anyK] at h
    split at h
    · rename_i x y h1 h2
      cases h
      rw [List.map_cons, kitAny_cons, kit_ty h1, anyK_ok h2]
      cases x <;> simp
    · cases h
theorem tysS_ok {K : PySem.W.Frag} {B I : List Addr} {H : Hp} : ∀ {vs : List V} {xs : List PV} {ts : List String}, RVs K B I H vs xs → tysS xs = some ts → Paired ClsV vs (ts.map Value.type)
  | _, _, _, .nil, e => by simp [tysS] at e; subst e; exact .nil
  | _, _, _, .cons r rs, e => by
    cases r <;> simp only [tysS, reduceCtorEq] at e
    obtain ⟨ts', e1, rfl⟩ := Option.map_eq_some_iff.mp e
    exact .cons (.ty _) (tysS_ok rs e1)
theorem tup_drf {m : Mu} {p : PV} {g : Bool} {xs : List PV} (h : drf m p = .tup g xs) : p = .tup g xs := by
  cases p with
  | loc l => rcases drf_loc m l with ⟨xs, e⟩ | ⟨ks, xs, e⟩ | e | e <;> rw [e] at h <;> cases h
  | _ => exact h
theorem bf_isinstance : CallR X (.builtin "isinstance") (rC X.K (bltS .isinstance)) := by
  refine cr_kf (CallR.or call_isi call_isiT) fun xs H Q kf h => ?_
  obtain ⟨I, B, m, ps, z, rm, rv, e, k⟩ := h
  match ps, rv with
  | [], .nil => simp [bltS] at e
  | [p], .cons r1 .nil => simp [bltS] at e
  | p :: q :: t :: l, .cons r1 (.cons r2 (.cons r3 _)) => simp [bltS] at e
  | [p, q], .cons (v := x) r1 (.cons (v := y) r2 .nil) =>
    simp only [List.map_cons, List.map_nil] at e
    cases hq : drf m q with
    | ty t =>
      rw [hq] at e
      have e3 := ty_drf hq
      subst e3
      cases r2
      by_cases hp : drf m p = .ob
      · have rt := r1.rt rm
        rw [hp] at e rt
        simp only [bltS] at e
        split at e
        · rename_i ht
          cases e
          rcases rt with rt | ⟨_, _, _, _, e2, _⟩ | ⟨_, _, _, _, _, _, e2, _⟩ | ⟨a, Ca, dx, ws, rfl, _, h, oc⟩
          · cases rt
          · cases e2
          · cases e2
          · exact .inl ⟨_, .ty t, _, .type t, false, rfl, .ty t, .base (.ins h oc.cl oc.ha oc.hn oc.htk oc.hm), oc.no t ht, fun kf' => k _ _ (Same.refl H) kf' (.bl false)⟩
        · cases e
      have hb : bltS .isinstance [drf m p, .ty t] = (tyS (drf m p)).bind fun s => (kitB s t).map .bl := by
        revert hp
        cases drf m p <;> first | (intro _; rfl) | (intro h; exact absurd rfl h)
      rw [hb] at e
      simp only [Option.bind_eq_some_iff, Option.map_eq_some_iff] at e
      obtain ⟨s1, e1, b, e2, rfl⟩ := e
      exact .inl ⟨x, .ty t, .type s1, .type t, b, rfl, .ty t, tys_ok (r1.rt rm) e1, kit_ty e2, fun kf' => k _ _ (Same.refl H) kf' (.bl b)⟩
    | tup g ts =>
      rw [hq] at e
      cases g with
      | true => simp [bltS] at e
      | false =>
      have e3 := tup_drf hq
      subst e3
      cases r2 with
      | tup ht rs =>
        simp only [bltS, Option.bind_eq_some_iff, Option.map_eq_some_iff] at e
        obtain ⟨s1, e1, us, e2, b, e4, rfl⟩ := e
        exact .inr ⟨x, _, _, .type s1, us.map Value.type, b, rfl, ht, tysS_ok rs e2, tys_ok (r1.rt rm) e1, anyK_ok e4, fun kf' => k _ _ (Same.refl H) kf' (.bl b)⟩
    | _ => rw [hq] at e; simp [bltS] at e
theorem bf_max (hc : X.calm = true) : CallR X (.builtin "max") (rC X.K (bltS .max)) := by
  refine cr_kf (CallR.or (call_max2 hc) (cr_max hc)) fun xs H Q kf h => ?_
  obtain ⟨I, B, m, ps, z, rm, rv, e, k⟩ := h
  match ps, rv with
  | [], .nil => simp [bltS, maxS] at e
  | p :: q :: t :: l, .cons r1 (.cons r2 (.cons r3 _)) => simp [bltS, maxS] at e
  | [p], .cons r1 .nil =>
    simp only [List.map_cons, List.map_nil, bltS, maxS] at e
    split at e
    · rename_i a r he
      cases e
      obtain ⟨ys, e1, e2⟩ := Option.bind_eq_some_iff.mp he
      obtain ⟨q, vs, rfl, h1, rs⟩ := lsS_rt (r1.rt rm) e1
      obtain rfl := allO_ints rs e2
      refine .inr ⟨_, _, rfl, h1, by simp, fun y hy hm kf' => ?_⟩
      obtain ⟨g1, g2⟩ := maxI_eq r a
      have : y = maxI a r := Int.le_antisymm (g2 y hy) (hm _ g1)
      subst this
      exact k _ _ (Same.refl H) kf' (.int _)
    · cases e
  | [p, q], .cons r1 (.cons r2 .nil) =>
    simp only [List.map_cons, List.map_nil, bltS] at e
    unfold maxS at e
    split at e
    · rename_i i j h
      simp only [List.cons.injEq, and_true] at h
      cases e
      obtain rfl := int_rt rm r1 h.1
      obtain rfl := int_rt rm r2 h.2
      exact .inl ⟨_, _, rfl, fun kf' => k _ _ (Same.refl H) kf' (.int _)⟩
    · rename_i h; simp at h
    · cases e
theorem bf_min (hc : X.calm = true) : CallR X (.builtin "min") (rC X.K (bltS .min)) := by
  refine cr_kf (CallR.or (call_min2 hc) (cr_min hc)) fun xs H Q kf h => ?_
  obtain ⟨I, B, m, ps, z, rm, rv, e, k⟩ := h
  match ps, rv with
  | [], .nil => simp [bltS, minS] at e
  | p :: q :: t :: l, .cons r1 (.cons r2 (.cons r3 _)) => simp [bltS, minS] at e
  | [p], .cons r1 .nil =>
    simp only [List.map_cons, List.map_nil, bltS, minS] at e
    split at e
    · rename_i a r he
      cases e
      obtain ⟨ys, e1, e2⟩ := Option.bind_eq_some_iff.mp he
      obtain ⟨q, vs, rfl, h1, rs⟩ := lsS_rt (r1.rt rm) e1
      obtain rfl := allO_ints rs e2
      refine .inr ⟨_, _, rfl, h1, by simp, fun y hy hm kf' => ?_⟩
      obtain ⟨g1, g2⟩ := minI_eq r a
      have : y = minI a r := Int.le_antisymm (hm _ g1) (g2 y hy)
      subst this
      exact k _ _ (Same.refl H) kf' (.int _)
    · cases e
  | [p, q], .cons r1 (.cons r2 .nil) =>
    simp only [List.map_cons, List.map_nil, bltS] at e
    unfold minS at e
    split at e
    · rename_i i j h
      simp only [List.cons.injEq, and_true] at h
      cases e
      obtain rfl := int_rt rm r1 h.1
      obtain rfl := int_rt rm r2 h.2
      exact .inl ⟨_, _, rfl, fun kf' => k _ _ (Same.refl H) kf' (.int _)⟩
    · rename_i h; simp at h
    · cases e
theorem encD_eq {p : PV} {d : PyData} (h : toD p = some d) : encD p = d := by unfold encD; rw [h]; rfl
theorem toDs_map : ∀ {xs : List PV} {ds : List PyData}, toDs xs = some ds → xs.map encD = ds ∧ ∀ x ∈ xs, ∃ d, toD x = some d
  | [], ds, h => by simp [toDs] at h; subst h; exact ⟨rfl, by simp⟩
  | x :: xs, ds, h => by
    simp only [toDs] at h
    split at h
    · rename_i d ds' h1 h2
      cases h
      obtain ⟨q1, q2⟩ := toDs_map h2
      refine ⟨by rw [List.map_cons, encD_eq h1, q1], fun y hy => ?_⟩
      rcases List.mem_cons.mp hy with rfl | hy
      · exact ⟨d, h1⟩
      · exact q2 y hy
    · cases h
theorem dep_mem : ∀ {xs : List PV} {x : PV}, x ∈ xs → dep x ≤ deps xs
  | y :: ys, x, h => by
    simp only [deps]
    rcases List.mem_cons.mp h with rfl | h
    · exact Nat.le_max_left _ _
    · exact Nat.le_trans (dep_mem h) (Nat.le_max_right _ _)
theorem eachIs_of {K : PySem.W.Frag} {B I : List Addr} {H : Hp} : ∀ {vs : List V} {us : List Value} {xs : List PV}, Vals vs us → RVs K B I H vs xs → PySem.W.EachIs (fun u (b : PV × V) => RelV b.2 u ∧ RV K B I H b.2 b.1) us (xs.zip vs)
  | _, _, _, .nil, .nil => .nil
  | _, _, _, .cons r rs, .cons q qs => .cons ⟨r, q⟩ (eachIs_of rs qs)
theorem eachIs_mem {α β : Type} {R : α → β → Prop} : ∀ {as : List α} {bs : List β}, PySem.W.EachIs R as bs → ∀ b ∈ bs, ∃ a, R a b
  | _, _, .nil, b, h => by simp at h
  | _, _, .cons r rs, b, h => by
    rcases List.mem_cons.mp h with rfl | h
    · exact ⟨_, r⟩
    · exact eachIs_mem rs b h
theorem eachIs_vals {K : PySem.W.Frag} {B I : List Addr} {H : Hp} : ∀ {us : List Value} {bs : List (PV × V)}, PySem.W.EachIs (fun u (b : PV × V) => RelV b.2 u ∧ RV K B I H b.2 b.1) us bs → Vals (bs.map (·.2)) us ∧ RVs K B I H (bs.map (·.2)) (bs.map (·.1))
  | _, _, .nil => ⟨.nil, .nil⟩
  | _, _, .cons r rs => ⟨.cons r.1 (eachIs_vals rs).1, .cons r.2 (eachIs_vals rs).2⟩
theorem eachIs_reads {pins : List (Addr × Obj)} {σ : L2.St} {H : Hp} {s : Shared} {B I : List Addr} (Iv : L2.Inv X pins σ H s) : ∀ {vs : List V} {us : List Value} {xs : List PV}, Vals vs us → RVs X.K B I H vs xs → (∀ x ∈ xs, ∃ d, toD x = some d) → PySem.W.EachIs (fun u (b : PV × V) => ∃ as, Reads s.heap u (encD b.1) as) us (xs.zip vs)
  | _, _, _, .nil, .nil, _ => .nil
  | _, _, _, .cons r rs, .cons q qs, h => by
    obtain ⟨d, hd⟩ := h _ (List.mem_cons_self)
    refine .cons ?_ (eachIs_reads Iv rs qs fun x hx => h x (by simp [hx]))
    rw [encD_eq hd]
    exact Dp.reads Iv d _ _ (q.dp hd) r
theorem sorted_seq {prog : Program} {w : World} {A : Around} {E : Value → Shared → Prop} {s : Shared} {β : Type} {vs : List Value} {bs : List β} {enc : β → PyData} {R : Value → β → Prop} {l : Addr} {T : String} {o : Obj} {n : Nat} {Q : Value → Shared → Prop}
    (hT : T = "list" ∨ T = "tuple") (hg : s.heap.get? l = some o) (hc : o.cls = .type T) (hd : o.data = .seq vs.toArray n)
    (e : PySem.W.EachIs R vs bs) (er : PySem.W.EachIs (fun v b => ∃ as, Reads s.heap v (enc b) as) vs bs) (hal : PySem.W.AllAlike (bs.map enc)) (hk : PySem.W.Sortable (bs.map enc)) (hL : bs.length ≤ sizeLine) (hu : ∀ b ∈ bs, A.units + 2 + (enc b).depth < cLine)
    (h : ∀ h1 : Heap, (∀ (b : Addr) (o' : Obj), s.heap.get? b = some o' → h1.get? b = some o') → ∀ (h' : Heap) (out : List Value) (ep : Nat), (∀ (b : Addr) (o' : Obj), h1.get? b = some o' → h'.get? b = some o') → h'.get? h1.objs.size = some (seqObj "list" out.toArray ep) → out.length = bs.length → PySem.W.EachIs R out (bs.mergeSort (PySem.W.dataLe false enc)) →
      Q (.ref h1.objs.size) { heap := h', gens := s.gens, drawn := s.drawn, toks := s.toks, os := s.os }) :
    wpAny (model prog w) A (call (.builtin "sorted") [.ref l]) Q E s := by
  have hlen := e.length
  refine call_function_entry_kw kind_sorted plain_sorted entry_sorted (args_sorted1 (.ref l)) (id (wpAny_bind (wpAny_pure (wpAny_bind ?_))))
  refine wpAny_collect_seq l hT hg hc hd (fun h1 k1 => ?_) (by simpa [hlen] using hL)
  refine wpAny_bind (wpAny_newList ?_ (by simpa [hlen] using hL))
  -- the copy
  have g1 : (h1.push { cls := .type "list", data := .seq vs.toArray.toList.toArray }).get? h1.objs.size = some (seqObj "list" vs.toArray 0) := by
    have ha : vs.toArray.toList.toArray = vs.toArray := by simp
    rw [ha]
    exact Heap.get?_push_size h1 rfl
  have old : ∀ b o', h1.get? b = some o' → b ≠ h1.objs.size ∧ b < (h1.push { cls := .type "list", data := .seq vs.toArray.toList.toArray }).objs.size := fun b o' hb => by
    have := Heap.lt_size hb
    exact ⟨Nat.ne_of_lt this, by rw [size_push']; exact Nat.lt_succ_of_lt this⟩
  refine wpAny_bind (wpAny_holding (wpAny_call_entry_kw slot_list_sort ⟨_, g1, rfl⟩ entry_list_sort (id ?_) (args_list_sort (.ref h1.objs.size))))
  have er' : PySem.W.EachIs (fun v b => ∃ as, Reads (PySem.W.sortingHeap (h1.push { cls := .type "list", data := .seq vs.toArray.toList.toArray }) h1.objs.size vs) v (enc b) as) vs bs :=
    er.mono fun v b ⟨as, r⟩ => ⟨as, Reads.keeps (fun b o' hb => PySem.W.sortingHeap_old (old b o' (k1 b o' hb)).1 (Heap.get?_push_of_some _ (k1 b o' hb))) r⟩
  refine PySem.W.list_sort_vals g1 (PySem.W.SortsAt.data (PySem.W.each_map enc er') hal hk (PySem.W.bound_map fun b hb => ?_)) (by rw [hlen]; exact hL) ?_
  · have := hu b hb
    exact this
  · refine ⟨.none, rfl, wpAny_pure ⟨.ref h1.objs.size, rfl, ?_⟩⟩
    obtain ⟨ep, hep⟩ := sortedHeap_at (out := (PySem.W.sortVals (PySem.W.dataKind (PySem.W.sortingHeap (h1.push { cls := .type "list", data := .seq vs.toArray.toList.toArray }) h1.objs.size vs) (bs.map enc)) false vs vs).toArray) g1
    refine h h1 k1 _ _ ep (fun b o' hb1 => ?_) hep ?_ (PySem.W.sortVals_data false e er' hal)
    · rw [sortedHeap_old (old b o' hb1).1 (old b o' hb1).2]
      exact Heap.get?_push_of_some _ hb1
    · rw [PySem.W.sortVals_length false rfl, hlen]
theorem bf_sorted (hu : X.A.units + 66 < cLine) : CallR X (.builtin "sorted") (rC X.K (bltS .sorted)) := by
  intro pins s σ H xs us Q Iv r h
  obtain ⟨x, p, z, I, B, m, rfl, rm, rt, e, k⟩ := rC1 (f := .sorted) (g := fun p => (itemsS p).bind sortedS) (fun ps h => by
    match ps with
    | [] => rfl
    | [p] => exact absurd rfl (h p)
    | _ :: _ :: _ => simp [bltS]) (fun _ => rfl) h
  obtain ⟨ys, e1, e2⟩ := Option.bind_eq_some_iff.mp e
  obtain ⟨q, vs, rfl, hq, rs⟩ := items_rt rt e1
  unfold sortedS at e2
  split at e2
  rotate_left
  · cases e2
  rename_i ds hds
  split at e2
  rotate_left
  · cases e2
  rename_i hc
  cases e2
  obtain ⟨hal, hso, hz, hdp⟩ := hc
  obtain ⟨hm, hall⟩ := toDs_map hds
  rw [Vals.ref1 r]
  obtain ⟨its, T, ob, n, rv, hT, hg, hcl, hda⟩ : ∃ its T ob n, Vals vs its ∧ (T = "list" ∨ T = "tuple") ∧ s.heap.get? q = some ob ∧ ob.cls = .type T ∧ ob.data = .seq its.toArray n := by
    rcases hq with hq | hq
    · obtain ⟨its, rv, ⟨ob, h1, h2, n, h3⟩, _⟩ := Inv.tuple Iv hq
      exact ⟨its, "tuple", ob, n, rv, .inr rfl, h1, h2, h3⟩
    · obtain ⟨its, rv, hl, _⟩ := Inv.list Iv hq
      obtain ⟨ob, h1, h2, n, h3⟩ := PlainL.isList hl
      exact ⟨its, "list", ob, n, rv, .inl rfl, h1, h2, h3⟩
  have hlen := rs.length
  have each := eachIs_of rv rs
  have enc1 : (ys.zip vs).map (fun b : PV × V => encD b.1) = ds := by
    rw [← hm]
    conv => rhs; rw [← List.map_fst_zip (l₁ := ys) (l₂ := vs) (by omega), List.map_map]
    rfl
  have hzl : (ys.zip vs).length = ys.length := by rw [List.length_zip]; omega
  refine sorted_seq (bs := ys.zip vs) (enc := fun b => encD b.1) hT hg hcl hda each (eachIs_reads Iv rv rs hall) (by rw [enc1]; exact hal) (by rw [enc1]; exact hso) (by rw [hzl]; exact hz) (fun b hb => ?_) fun h1 k1 h' out ep k2 he ho hout => ?_
  · have hb1 : b.1 ∈ ys := (List.of_mem_zip hb).1
    obtain ⟨d, hd⟩ := hall _ hb1
    rw [encD_eq hd, toD_dep hd]
    have := dep_mem hb1
    omega
  · obtain ⟨hv, hr⟩ := eachIs_vals hout
    have hmm : (((ys.zip vs).mergeSort (PySem.W.dataLe false fun b => encD b.1)).map (·.1)) = srtS ys := by
      unfold srtS
      have := List.map_mergeSort (r := PySem.W.dataLe false fun b : PV × V => encD b.1) (s := PySem.W.dataLe false encD) (f := fun x : PV × V => x.1) (l := ys.zip vs) (fun a _ b _ => rfl)
      rw [this]
      congr 1
      exact List.map_fst_zip (by omega)
    have hlz : (((ys.zip vs).mergeSort (PySem.W.dataLe false fun b => encD b.1)).map (·.2)).length ≤ sizeLine := by
      rw [List.length_map, List.length_mergeSort, hzl]; exact hz
    have I1 := Inv.kept (t' := s.toks) Iv k1
    have hfr := HOk.fresh I1.hok (Nat.le_refl h1.objs.size)
    have J := Inv.laid (s := ⟨h1, s.gens, s.drawn, s.toks, s.os⟩) (t' := s.toks) (o := .lst (((ys.zip vs).mergeSort (PySem.W.dataLe false fun b => encD b.1)).map (·.2))) I1 k2 (Nat.le_refl h1.objs.size) ⟨hlz, out, ep, hv, he⟩
    refine ⟨.ref h1.objs.size, _, J, rfl, ?_⟩
    refine k _ _ (upd_same_of hfr) (Inv.kfree J) ?_
    have := RV.newL rm hfr hr
    rw [hmm] at this
    exact this
theorem callB_rd {f : Bf} {σ : L2.St} {H : Hp} {Q : VK} (h : rE X W (ev Φ (.pr (.blt f) as)) σ H Q) : tCB (rC X.K (bltS f)) (rA X W (evs Φ as)) σ H fun v H' => KF X.K H' → Q v H' := by
  obtain ⟨ρ, m, I, B, rs, r⟩ := h
  simp only [ev] at r
  refine ⟨ρ, m, I, B, rs, r.seq fun xs m1 _ vs I1 H1 n1 rm1 rv1 r => ?_⟩
  obtain ⟨z, e, r⟩ := prR_some r
  exact ⟨I1, B, m1, xs, z, rm1, rv1, e, fun v H' s kf rv _ => r.fin rm1 s kf rv⟩
theorem bf_ok (hc : X.calm = true) (hu : X.A.units + 66 < cLine) : ∀ b : Bf, CallR X (bootV b) (rC X.K (bltS b))
  | .isinstance => bf_isinstance
  | .len => bf_len
  | .abs => bf_abs
  | .max => bf_max hc
  | .min => bf_min hc
  | .int => bf_int
  | .str => bf_str
  | .tuple => bf_tuple
  | .list => bf_list hc
  | .sorted => bf_sorted hu
  | .all => bf_all hc
  | .any => bf_any hc
  | .sum => bf_sum hc
theorem boot_tab : ∀ p ∈ bltTab, bootBuiltins p.1 = some (bootV p.2) := by decide +kernel
theorem s_blt {f : Str} {b : Bf} {p : Pos} (o : XOk S Φ W X) (hf : bltTab.lookup f = some b) (hg : S.gl f = true) (hs : isStar ea = false) (hst : es.any isStar = false) (ha : PA X (ea :: es) (rA X W (evs Φ as))) :
    PE X (.Call (.Name f p) (ea :: es) [] pos) (rE X W (ev Φ (.pr (.blt b) as))) := by
  obtain ⟨g1, g2, g3⟩ := gl_some o hg
  have hmem := PySem.mem_of_lookup hf
  have hm : X.mg f = none := o.blt f (List.mem_map.mpr ⟨(f, b), hmem, rfl⟩)
  have hpl : (backTo pos (starEach es X.env)).any (·.1) = false := by rw [backTo_any, starEach_none hst]
  have hb := boot_tab (f, b) hmem
  have hk : (∃ id, bootV b = .builtin id) ∨ ∃ T, bootV b = .type T := by cases b <;> first | exact .inl ⟨_, rfl⟩ | exact .inr ⟨_, rfl⟩
  have cr := bf_ok (X := X) o.calm o.units b
  rcases hk with ⟨id, e⟩ | ⟨T, e⟩
  · simp only [e] at hb
    rw [e] at cr
    exact pe_imp (pe_callB cr g1 hm hb ha g3 g2 (starEach_plain hs) hpl) fun _ _ _ h => callB_rd h
  · simp only [e] at hb
    rw [e] at cr
    exact pe_imp (pe_callTy cr g1 hm hb ha g3 g2 (starEach_plain hs) hpl) fun _ _ _ h => callB_rd h
/-! ### methods -/
theorem attrBase {e : Expr} {n : Str} {env : Env} {w : Sem Value} (h : isCall0 e = false) : attributeBase e n env w = w := by
  cases e with
  | Call f as kws p =>
    cases as <;> cases kws <;> first | (simp [isCall0] at h; done) | (cases f <;> rfl)
  | _ => rfl
theorem evs1 {ρ : Rho} {m : Mu} : evs Φ (.cons false a .nil) ρ m = (ev Φ a ρ m).bind fun p m => .ok [p] m := by
  simp only [evs, Bool.false_eq_true, if_false, ok_bind]
/-- a tuple with its object known -/
def tyG : V → Hp → Prop := fun x H => ∃ a o vs, x = .ref a ∧ o.dict = none ∧ H a = some (.frz o (.tup vs))
theorem tyG_ok : TyOk X "tuple" tyG := by
  rintro pins σ H s x v I rx ⟨a, o, vs, rfl, ho, h⟩
  cases rx
  have z := I.hok a _ h
  simp only [ObjOk] at z
  obtain ⟨hg, _, its, _, o', hg', hc, _⟩ := z
  refine ⟨⟨o', hg', hc⟩, fun b e => ?_⟩
  cases e
  exact ⟨o, hg, ho⟩
theorem s_idx {eo : Expr} {o : Ex} {p1 p2 : Pos} (hc : isCall0 eo = false) (hs : isStar ea = false) (hl : (p1.endLine == p2.line) = true) (ho : PE X eo (rE X W (ev Φ o))) (ha : PE X ea (rE X W (ev Φ a))) :
    PE X (.Call (.Attribute eo "index" p1) [ea] [] p2) (rE X W (ev Φ (.idx o a))) := by
  refine pe_imp (pe_mG tyG_ok PySem.F.plainAttrs_tuple PySem.F.slot_tuple_index PySem.F.type_tuple_index mt_tup_index ho (a_cons (as := .nil) hs ha a_nil) (attrBase hc) ?_ hl (starEach_plain hs) rfl) fun σ H Q ⟨ρ, m, I, B, rs, r⟩ => ?_
  · rw [starEach_plain hs]; rfl
  simp only [ev] at r
  refine ⟨ρ, m, I, B, rs, r.seq fun p m1 _ v I1 H1 n1 rm1 rv1 r => ?_⟩
  split at r
  rotate_left
  · exact r.elim
  rename_i xs0 _
  cases rv1 with
  | tup ht rvs =>
    obtain ⟨ob, hd, hh⟩ := ht
    refine ⟨⟨_, ob, _, rfl, hd, hh⟩, ρ, m1, I1, B, rs.nx n1 rm1, ?_⟩
    rw [evs1]
    cases e : ev Φ a ρ m1 with
    | stuck => rw [e] at r; exact r.elim
    | exc c q m2 => rw [e] at r; exact r
    | ok q m2 =>
      rw [e] at r
      simp only [ok_bind] at r ⊢
      intro us I2 H2 n2 rm2 rvs2
      have r := rok.nx r n2
      cases rvs2 with
      | cons rv2 t =>
        cases t
        split at r
        rotate_left
        · exact r.elim
        cases rv2
        rename_i z _
        cases e2 : ((allO strS xs0).bind fun ys => ys.findIdx? fun y => decide (y = z)) with
        | none => rw [e2] at r; exact r.elim
        | some j =>
          rw [e2] at r
          obtain ⟨ys, e3, e4⟩ := Option.bind_eq_some_iff.mp e2
          obtain rfl := allO_strs rvs e3
          have ht2 : TupR H2 _ true (ys.map V.str) := n2.tupK rm1 (g := true) ⟨ob, hd, hh⟩
          obtain ⟨hj, h5, h6⟩ := List.findIdx?_eq_some_iff_getElem.mp e4
          refine ⟨_, ys, z, j, rfl, rfl, ht2.sq, ?_, fun i hi e7 => ?_, fun kf => ?_⟩
          · rw [List.getElem?_eq_getElem hj]
            simpa using h5
          · have hi2 : i < ys.length := by omega
            rw [List.getElem?_eq_getElem hi2] at e7
            have := h6 i hi
            simp only [decide_eq_true_eq] at this
            exact this (Option.some.inj e7)
          · exact r _ I2 H2 (Nx.refl _ _) rm2 (.int _)
theorem s_join {s : Str} {k0 : Nat} {q0 p1 p2 : Pos} (hs : isStar ea = false) (hl : (p1.endLine == p2.line) = true) (ha : PE X ea (rE X W (ev Φ a))) :
    PE X (.Call (.Attribute (.Constant (.str s) k0 q0) "join" p1) [ea] [] p2) (rE X W (ev Φ (.pr (.mth .join) (.cons false (.cst (.str s)) (.cons false a .nil))))) := by
  refine pe_imp (pe_join (s_const (Φ := Φ) (W := W) (p := .str s) rfl) ha (by rw [starEach_plain hs]; rfl) rfl hl) fun σ H Q ⟨ρ, m, I, B, rs, r⟩ => ?_
  rw [ev_pr2] at r
  refine ⟨ρ, m, I, B, rs, r.seq fun p m1 e1 v I1 H1 n1 rm1 rv1 r => ?_⟩
  simp only [ev, Res.ok.injEq] at e1
  obtain ⟨rfl, rfl⟩ := e1
  cases rv1
  refine ⟨⟨s, rfl⟩, ρ, m, I1, B, rs.nx n1 rm1, r.seq fun q m2 _ u I2 H2 n2 rm2 rv2 r => ?_⟩
  obtain ⟨z, e, r⟩ := prR_some r
  simp only [seesR, if_true, List.map_cons, List.map_nil, drf, prS, mthS, Option.bind_eq_some_iff] at e
  obtain ⟨ys, ⟨xs, e3, e4⟩, e5⟩ := e
  split at e5
  · rename_i hz
    cases e5
    obtain ⟨b, vs, rfl, hq, rvs⟩ := items_rt (rv2.rt rm2) e3
    obtain rfl := allO_strs rvs e4
    exact ⟨s, b, ys, rfl, rfl, hq.symm, hz, fun _ => r _ I2 H2 (Nx.refl _ _) rm2 (.str _)⟩
  · cases e5
/-! ### a call of a def -/
theorem s_call {f : Str} {n : Nat} {p : Pos} (o : XOk S Φ W X) (hf : S.fns.lookup f = some n) (hg : S.gl f = true) (hs : isStar ea = false) (hst : es.any isStar = false) (hn : (ea :: es).length = n)
    (ha : PA X (ea :: es) (rA X W (evs Φ as))) : PE X (.Call (.Name f p) (ea :: es) [] pos) (rE X W (ev Φ (.call f as))) := by
  obtain ⟨g1, g2, g3⟩ := gl_some o hg
  obtain ⟨fa, fd, ps, k, h1, h2, h3, h4, h5⟩ := (o.fns f n hf).ex
  have hpl : (backTo pos (starEach es X.env)).any (·.1) = false := by rw [backTo_any, starEach_none hst]
  refine pe_imp (pe_callS h5 h3 g1 h1 h2 h4 (fun σ => passAt o.tk σ) ha g2 (starEach_plain hs) hpl) fun σ H Q ⟨ρ, m, I, B, rs, r⟩ => ?_
  simp only [ev] at r
  refine ⟨ρ, m, I, B, rs, r.seq fun xs m1 _ vs I1 H1 n1 rm1 rv1 r => ?_⟩
  exact ⟨xs, m1, I1, B, rm1, rv1, r.mono (fun _ _ q _ => q) fun _ _ _ q => q⟩
/-! ### a call with keywords -/
theorem run_fnkS {CX : CXT} {k : Nat} {f : Addr} {fd : FuncData} {ps ks : List Str} {sp : Sp} {E : L2.St → XK} {g : List Value → List Value → List Value} {gV : List V → List V → List V} {pins : List (Addr × Obj)} {σ : L2.St} {H : Hp} {s : Shared} {Q : VK} {us ws : List Value} {vs zs : List V}
    (F : FnOk X.prog X.w X.K X.mg X.base CX k f fd ps sp) (hr : Room k X.A) (hb : KBinds X.K fd ps ks g gV) (hx : PassesAt CX X σ (E σ)) (I : L2.Inv X pins σ H s) (r : Vals vs us) (rz : Vals zs ws) (h : sp (gV vs zs) H Q (E σ)) :
    wpAny (model X.prog X.w) X.A (call (.ref f) us (ks.zip ws)) (EP X pins σ Q) X.xe s := by
  have r2 := hb.rel r rz
  have hl : (g us ws).length = ps.length := by rw [← Vals.length r2]; exact F.len _ _ _ _ h
  refine wpAny_call (codeAny_mono (F.run X.A X.stack s H { pos := us, kw := ks.zip ws } (g us ws) (gV vs zs) Q (E σ) hr (Inv.env0 I) (hb.to s us ws (Inv.kIn I) hl) r2 h) fun r s' hq => ?_)
  cases r with
  | error e => exact hx pins H s e s' I hq
  | ok fl =>
    cases fl with
    | ret u => exact Inv.after I hq
    | _ => exact hq.elim
def tCallKS (sp : Sp) (gV : List V → List V → List V) (E : L2.St → XK) (t tk : TA) : TE := fun σ H Q => t σ H fun vs H1 => tk σ H1 fun zs H2 => sp (gV vs zs) H2 Q (E σ)
theorem kw_all {pos : Pos} {env : Env} : ∀ {kws : List Keyword} {ks : List Str}, kwNames kws = some ks → ((backToKw pos (keywordEach kws env)).all fun x => x.1.isSome) = true ∧ List.filterMap (fun x => x.1) (backToKw pos (keywordEach kws env)) = ks ∧ ((backToKw pos (keywordEach kws env)).any fun x => x.1.isNone) = false
  | [], ks, h => by simp [kwNames] at h; subst h; exact ⟨rfl, rfl, rfl⟩
  | ⟨some n, e, p⟩ :: r, ks, h => by
    simp only [kwNames, Option.map_eq_some_iff] at h
    obtain ⟨ks', h1, rfl⟩ := h
    obtain ⟨q1, q2, q3⟩ := kw_all (pos := pos) (env := env) h1
    have hk : backToKw pos (keywordEach (⟨some n, e, p⟩ :: r) env) = (some n, do let v ← eval e env; standAt pos; pure v) :: backToKw pos (keywordEach r env) := rfl
    rw [hk]
    simp only [List.all_cons, List.any_cons, List.filterMap_cons, q1, q2, q3, Option.isSome_some, Option.isNone_some, Bool.and_self, Bool.or_self]
    exact ⟨trivial, trivial, trivial⟩
  | ⟨none, e, p⟩ :: r, ks, h => by simp [kwNames] at h
theorem fin_callKS {CX : CXT} {k : Nat} {f : Addr} {fd : FuncData} {ps ks : List Str} {sp : Sp} {E : L2.St → XK} {pos : Pos} {kws : List Keyword} {tk : TA} {g : List Value → List Value → List Value} {gV : List V → List V → List V} {pins : List (Addr × Obj)} {σ : L2.St} {Q : VK}
    (F : FnOk X.prog X.w X.K X.mg X.base CX k f fd ps sp) (hr : Room k X.A) (hb : KBinds X.K fd ps ks g gV) (hx : ∀ σ, PassesAt CX X σ (E σ)) (hkw : PK X kws tk) (hks : kwNames kws = some ks) (us : List Value) (s1 : Shared) (vs : List V) (H1 : Hp) (I1 : L2.Inv X pins σ H1 s1) (r : Vals vs us) (q : tk σ H1 (fun zs H2 => sp (gV vs zs) H2 Q (E σ))) :
    wpAny (model X.prog X.w) X.A (evalAll (List.map (fun x => x.2) (backToKw pos (keywordEach kws X.env)))) (fun ws s2 => X.K.In s2.heap ∧ wpAny (model X.prog X.w) X.A (call (.ref f) ([] ++ us) ((List.filterMap (fun x => x.1) (backToKw pos (keywordEach kws X.env))).zip ws)) (EP X pins σ Q) X.xe s2) X.xe s1 := by
  obtain ⟨q1, q2, q3⟩ := kw_all (pos := pos) (env := X.env) hks
  refine thn (hkw.run pos pins s1 σ H1 _ I1 q) fun ws s2 ⟨zs, H2, I2, rz, q2'⟩ => ⟨Inv.kIn I2, ?_⟩
  rw [q2]
  exact run_fnkS F hr hb (hx σ) I2 r rz q2'
theorem pe_callKS {CX : CXT} {k : Nat} {f : Addr} {fd : FuncData} {ps ks : List Str} {sp : Sp} {E : L2.St → XK} {x : Str} {p pos : Pos} {e : Expr} {es : List Expr} {kws : List Keyword} {t tk : TA} {g : List Value → List Value → List Value} {gV : List V → List V → List V}
    (F : FnOk X.prog X.w X.K X.mg X.base CX k f fd ps sp) (hr : Room k X.A) (hg : Gl X x) (hm : X.mg x = some (.ref f)) (hk : PySem.W.keepIn X.K (.ref f) = true) (hb : KBinds X.K fd ps ks g gV) (hx : ∀ σ, PassesAt CX X σ (E σ)) (ha : PA X (e :: es) t) (hkw : PK X kws tk)
    (hks : kwNames kws = some ks) (hdb : (x == ("__debug__" : Str)) = false) (hst : (e :: es).any isStar = false) : PE X (.Call (.Name x p) (e :: es) kws pos) (tCallKS sp gV E t tk) := by
  obtain ⟨q1, q2, q3⟩ := kw_all (pos := pos) (env := X.env) hks
  have hpl : (((backTo pos (starEach (e :: es) X.env)).any fun x => x.1) || (backToKw pos (keywordEach kws X.env)).any fun x => x.1.isNone) = false := by
    rw [q3, backTo_any, starEach_none hst]; rfl
  refine ⟨fun pins s σ H Q I h => wpAny_Call_Name_kw (ld_glob I hg hm (PySem.W.callWith_of hpl (PySem.W.keeps_K hk) ?_) hdb)⟩
  have he : starEach (e :: es) X.env = (false, eval e X.env) :: starEach es X.env := starEach_plain (by simp only [List.any_cons, Bool.or_eq_false_iff] at hst; exact hst.1)
  exact evalArgs_kw2 q1 (thn (ha.run pos pins s σ H _ I h) fun us s1 ⟨vs, H1, I1, r, q⟩ => fin_callKS F hr hb hx hkw hks us s1 vs H1 I1 r q) he
theorem pe_callKS0 {CX : CXT} {k : Nat} {f : Addr} {fd : FuncData} {ps ks : List Str} {sp : Sp} {E : L2.St → XK} {x : Str} {p pos : Pos} {kws : List Keyword} {tk : TA} {g : List Value → List Value → List Value} {gV : List V → List V → List V}
    (F : FnOk X.prog X.w X.K X.mg X.base CX k f fd ps sp) (hr : Room k X.A) (hg : Gl X x) (hm : X.mg x = some (.ref f)) (hk : PySem.W.keepIn X.K (.ref f) = true) (hb : KBinds X.K fd ps ks g gV) (hx : ∀ σ, PassesAt CX X σ (E σ)) (hkw : PK X kws tk)
    (hks : kwNames kws = some ks) (hdb : (x == ("__debug__" : Str)) = false) : PE X (.Call (.Name x p) [] kws pos) (tCallKS sp gV E tNil tk) := by
  obtain ⟨q1, q2, q3⟩ := kw_all (pos := pos) (env := X.env) hks
  have hpl : (((backTo pos (starEach [] X.env)).any fun x => x.1) || (backToKw pos (keywordEach kws X.env)).any fun x => x.1.isNone) = false := by
    rw [q3]; rfl
  refine ⟨fun pins s σ H Q I h => wpAny_Call_Name_kw (ld_glob I hg hm (PySem.W.callWith_of hpl (PySem.W.keeps_K hk) ?_) hdb)⟩
  exact evalArgs_kw2_nil q1 (fin_callKS F hr hb hx hkw hks [] s [] H I .nil h)
theorem pk_imp {kws : List Keyword} {t t' : TA} (h : PK X kws t) (k : ∀ σ H Q, t' σ H Q → t σ H Q) : PK X kws t' :=
  ⟨fun pos pins s σ H Q I q => h.run pos pins s σ H Q I (k σ H Q q)⟩
theorem k_nil : PK X [] (rA X W (evs Φ .nil)) := pk_imp pk_nil fun σ H Q ⟨ρ, m, I, B, rs, r⟩ => r [] I H (Nx.refl I H) rs.rm .nil
theorem k_cons {nm : Option Str} {kp : Pos} {kws : List Keyword} (ha : PE X ea (rE X W (ev Φ a))) (hr : PK X kws (rA X W (evs Φ as))) : PK X (⟨nm, ea, kp⟩ :: kws) (rA X W (evs Φ (.cons false a as))) := by
  refine pk_imp (pk_cons ha hr) fun σ H Q ⟨ρ, m, I, B, rs, r⟩ => ?_
  simp only [evs, Bool.false_eq_true, if_false] at r
  refine ⟨ρ, m, I, B, rs, r.seq fun x m1 _ v I1 H1 n1 rm1 rv1 r => ⟨ρ, m1, I1, B, rs.nx n1 rm1, r.seq fun ys m2 _ us I2 H2 n2 rm2 rv2 r => ?_⟩⟩
  exact r _ I2 H2 (Nx.refl I2 H2) rm2 (.cons (rv1.nx n2 rm1) rv2)
theorem RVs.perm {K : PySem.W.Frag} {B I : List Addr} {H : Hp} {vs : List V} {xs : List PV} (r : RVs K B I H vs xs) : ∀ perm : List Nat, RVs K B I H (permV perm vs) (permV perm xs)
  | [] => .nil
  | i :: perm => by
    have ih := r.perm perm
    have hl := r.length
    unfold permV at ih ⊢
    by_cases hi : i < xs.length
    · obtain ⟨v, e1, rv⟩ := r.get (List.getElem?_eq_getElem hi)
      rw [List.filterMap_cons, List.filterMap_cons, e1, List.getElem?_eq_getElem hi]
      exact .cons rv ih
    · rw [List.filterMap_cons, List.filterMap_cons, List.getElem?_eq_none (by omega), List.getElem?_eq_none (by omega)]
      exact ih
theorem RVs.permW {K : PySem.W.Frag} {B I : List Addr} {H : Hp} {vs zs : List V} {xs ys : List PV} (r : RVs K B I H vs xs) (q : RVs K B I H zs ys) (n k : Nat) (perm : List Nat) : RVs K B I H (permW n k perm vs zs) (permW n k perm xs ys) := by
  unfold Sn.permW
  rw [r.length, q.length]
  split
  · exact (r.append q).perm perm
  · exact .nil
theorem s_callk {f : Str} {es : List Expr} {kws : List Keyword} {xa xb : Option Exs} {x : Ex} {p : Pos} (o : XOk S Φ W X) (h : trCK S f es kws xa xb = some x) (ha : ∀ a, xa = some a → PA X es (rA X W (evs Φ a))) (hb : ∀ a, xb = some a → PK X kws (rA X W (evs Φ a))) (hz : es = [] → xa = some .nil) :
    PE X (.Call (.Name f p) es kws pos) (rE X W (ev Φ x)) := by
  unfold trCK at h
  split at h
  · cases h
  rename_i hc
  simp only [Bool.or_eq_true, not_or, Bool.not_eq_true, Bool.not_eq_false'] at hc
  obtain ⟨⟨h1, h2⟩, h3⟩ := hc
  split at h
  rotate_left
  · cases h
  rename_i ks hks
  split at h
  rotate_left
  · cases h
  rename_i perm as bs hp
  cases h
  obtain ⟨g1, g2, g3⟩ := gl_some o h2
  obtain ⟨fa, fd, ps, k, c1, c2, c3, c4, c5⟩ := (o.kws _ _ _ _ (kwPerm_mem hp)).ex
  have hA := ha as rfl
  have hB := hb bs rfl
  have rd : ∀ {σ : L2.St} {H : Hp} {Q : VK}, rE X W (ev Φ (.callk f as bs es.length ks.length perm)) σ H Q → tCallKS (spF X.mg X.K (Φ f)) (permW es.length ks.length perm) (fun σ c d H' => W c d σ H') (rA X W (evs Φ as)) (rA X W (evs Φ bs)) σ H fun v H' => KF X.K H' → Q v H' := by
    rintro σ H Q ⟨ρ, m, I, B, rs, r⟩
    simp only [ev] at r
    refine ⟨ρ, m, I, B, rs, r.seq fun us m1 _ vs I1 H1 n1 rm1 rv1 r => ⟨ρ, m1, I1, B, rs.nx n1 rm1, r.seq fun ws m2 _ zs I2 H2 n2 rm2 rv2 r => ?_⟩⟩
    exact ⟨_, m2, I2, B, rm2, (rv1.nx n2 rm1).permW rv2 _ _ perm, r.mono (fun _ _ q _ => q) fun _ _ _ q => q⟩
  cases es with
  | cons e es => exact pe_imp (pe_callKS c5 c3 g1 c1 c2 c4 (fun σ => passAt o.tk σ) hA hB hks g2 h1) fun _ _ _ h => rd h
  | nil =>
    have := hz rfl
    cases this
    refine pe_imp (pe_callKS0 c5 c3 g1 c1 c2 c4 (fun σ => passAt o.tk σ) hB hks g2) fun σ H Q h => ?_
    obtain ⟨ρ, m, I, B, rs, r⟩ := rd h
    exact r [] I H (Nx.refl I H) rs.rm .nil
/-! ### the whole -/
theorem not_any_star : ∀ {es : List Expr} {e : Expr}, ((es.any isStar || isStar e) = true → False) → es.any isStar = false ∧ isStar e = false := fun {es e} h => by
  cases h1 : es.any isStar <;> cases h2 : isStar e <;> simp_all
theorem s_boolOp {op : BoolOp} {eb : Expr} {b : Ex} (ha : PE X ea (rE X W (ev Φ a))) (hb : PE X (.BoolOp op (eb :: es) pos) (rE X W (ev Φ b))) :
    PE X (.BoolOp op (ea :: eb :: es) pos) (rE X W (ev Φ (bop op a b))) := by
  cases op with
  | And => exact s_and ha hb
  | Or => exact s_or ha hb
theorem w_boolOp {op : BoolOp} {eb : Expr} {b : Ex} (ha : PT X ea (rT X W (evT Φ a))) (hb : PW X (.BoolOp op (eb :: es) pos) (rT X W (evT Φ b))) :
    PW X (.BoolOp op (ea :: eb :: es) pos) (rT X W (evT Φ (bop op a b))) := by
  cases op with
  | And => exact w_and ha hb
  | Or => exact w_or ha hb
theorem w_one {op : BoolOp} (ha : PT X ea (rT X W (evT Φ a))) : PW X (.BoolOp op [ea] pos) (rT X W (evT Φ a)) := by
  cases op with
  | And => exact pw_and1 ha
  | Or => exact pw_or1 ha
end
end Sn
namespace Sn
open PySem PySem.Spec PyProof.Rows L2
/-! ### an own class is made -/
section
variable {X : Cx} {CX : CXT} {k : Nat} {f C : Addr} {fd : FuncData} {ps : List Str} {sp : Sp} {E : L2.St → XK}
theorem run_makeS {pins : List (Addr × Obj)} {σ : L2.St} {H : Hp} {s : Shared} {Q : VK} {us : List Value} {vs : List V} (M : Mk X.K C f) (F : FnOk X.prog X.w X.K X.mg X.base CX k f fd ps sp) (hr : Room (k + 1) X.A) (hb : Binds X.K fd ps [])
    (hx : PassesAt CX X σ (E σ)) (I : L2.Inv X pins σ H s) (r : Vals vs us)
    (h : ∀ x dx, H x = none → H dx = none → dx ≠ x → sp (.ref x :: vs) (upd (upd H dx (.own x)) x (.ins C dx [])) (fun v H2 => v = .non ∧ Q (.ref x) H2) (E σ)) :
    wpAny (model X.prog X.w) X.A (call (.ref C) us) (EP X pins σ Q) X.xe s := by
  have hq := h (s.heap.objs.size + 1) s.heap.objs.size (I.hok.fresh (Nat.le_succ _)) (I.hok.fresh (Nat.le_refl _)) (Nat.ne_of_lt (Nat.lt_succ_self _))
  have I2 := Inv.made (C := C) I
  have r2 : Vals (V.ref (s.heap.objs.size + 1) :: vs) (Value.ref (s.heap.objs.size + 1) :: us) := .cons rfl r
  have hl : (Value.ref (s.heap.objs.size + 1) :: us).length = ps.length := by
    have e := r2.length
    rw [F.len _ _ _ _ hq] at e
    exact e.symm
  refine wpAny_call (make_map (f := f) I.kIn M.makes M.init (beq_iff_eq.mp M.fn) (codeAny_mono (F.run _ X.stack _ _ ⟨Value.ref (s.heap.objs.size + 1) :: us, []⟩ (Value.ref (s.heap.objs.size + 1) :: us) _ _ (E σ) (hr.make C us [])
    (I2.env0.make C us []) (by have := hb _ (Value.ref (s.heap.objs.size + 1) :: us) I2.kIn (by rw [List.append_nil]; exact hl); rw [List.append_nil] at this; exact this) r2 hq) fun r s' hq' => ?_))
  cases r with
  | error e => exact hx pins _ _ e s' I2 hq'
  | ok fl =>
    cases fl with
    | ret u =>
      obtain ⟨v, H', I3, rv, ev, q3⟩ := I2.after hq'
      subst ev
      exact ⟨rv, ⟨V.ref (s.heap.objs.size + 1), H', I3, rfl, q3⟩⟩
    | next => exact False.elim hq'
    | brk => exact False.elim hq'
    | cont => exact False.elim hq'
def tMakeS (C : Addr) (sp : Sp) (E : L2.St → XK) (t : TA) : TE := fun σ H Q => t σ H fun vs H1 => ∀ x dx, H1 x = none → H1 dx = none → dx ≠ x → sp (.ref x :: vs) (upd (upd H1 dx (.own x)) x (.ins C dx [])) (fun v H2 => v = .non ∧ Q (.ref x) H2) (E σ)
theorem pe_makeS {x : Str} {p pos : Pos} {e : Expr} {es : List Expr} {t : TA} (M : Mk X.K C f) (F : FnOk X.prog X.w X.K X.mg X.base CX k f fd ps sp) (hr : Room (k + 1) X.A) (hg : Gl X x) (hm : X.mg x = some (.ref C)) (hb : Binds X.K fd ps []) (hx : ∀ σ, PassesAt CX X σ (E σ))
    (ha : PA X (e :: es) t) (hdb : (x == ("__debug__" : Str)) = false) (he : starEach (e :: es) X.env = (false, eval e X.env) :: starEach es X.env) (hpl : (backTo pos (starEach es X.env)).any (·.1) = false) :
    PE X (.Call (.Name x p) (e :: es) [] pos) (tMakeS C sp E t) := by
  refine ⟨fun pins s σ H Q I h => ?_⟩
  refine wpAny_Call_Name_kw (ld_glob I hg hm ?_ hdb)
  refine PySem.W.callWith_K (h₀ := X.base) I.ok.mod.kin M.kp (thn (ha.run pos pins s σ H _ I h) fun us s1 ⟨vs, H1, I1, r, q⟩ => ⟨I1.kIn, ?_⟩) he hpl
  exact run_makeS M F hr hb (hx σ) I1 r q
end
section
variable {K : PySem.W.Frag} {I B : List Addr} {H : Hp} {m : Mu}
theorem upd_sameN {H : Hp} {p : Addr} {o : HO} (hp : H p = none) : Same H (upd H p o) := fun a u e => by
  by_cases hne : a = p
  · subst hne; rw [hp] at e; cases e
  · rw [upd_ne hne]; exact e
end
section
variable {S : Stc} {Φ : FEnv} {W : WX} {X : Cx} {ea : Expr} {es : List Expr} {as : Exs} {a : Ex} {pos : Pos}
theorem s_mk {C : Str} {n : Nat} {p : Pos} (o : XOk S Φ W X) (hf : S.mks.lookup C = some n) (hg : S.gl C = true) (hs : isStar ea = false) (hst : es.any isStar = false)
    (ha : PA X (ea :: es) (rA X W (evs Φ as))) : PE X (.Call (.Name C p) (ea :: es) [] pos) (rE X W (ev Φ (.mk C as))) := by
  obtain ⟨g1, g2, g3⟩ := gl_some o hg
  obtain ⟨Ca, fa, fd, ps, k, h1, h1', hoc, h2, h3, h4, h5⟩ := (o.mks C n hf).ex
  have hpl : (backTo pos (starEach es X.env)).any (·.1) = false := by rw [backTo_any, starEach_none hst]
  refine pe_imp (pe_makeS h2 h5 h3 g1 h1 h4 (fun σ => passAt o.tk σ) ha g2 (starEach_plain hs) hpl) fun σ H Q ⟨ρ, m, I, B, rs, r⟩ => ?_
  simp only [ev] at r
  refine ⟨ρ, m, I, B, rs, r.seq fun xs m1 _ vs I1 H1 n1 rm1 rv1 r x dx hx hdx hne => ?_⟩
  have s1 : Same H1 (upd H1 dx (.own x)) := upd_sameN hdx
  have rm2 := rm1.same s1
  have hx2 : upd H1 dx (.own x) x = none := by rw [upd_ne (Ne.symm hne)]; exact hx
  have rm3 : RM X.K B (I1 ++ [x]) (upd (upd H1 dx (.own x)) x (.ins Ca dx [])) (m1 ++ [.ins C []]) := rm2.pushO hx2 ⟨Ca, dx, [], h1', hoc, upd_same, rfl, .nil⟩
  have n2 : Nx I1 (I1 ++ [x]) H1 (upd (upd H1 dx (.own x)) x (.ins Ca dx [])) := (Nx.same I1 s1).trans (Nx.pushO rm2 hx2)
  have hl : (I1 ++ [x])[m1.length]? = some x := by rw [← rm1.len]; simp
  refine ⟨.loc m1.length :: xs, m1 ++ [.ins C []], I1 ++ [x], B, rm3, .cons (.loc hl) (rv1.nx n2 rm1), ?_⟩
  refine (r.nx n2).seq fun p m2 _ v I2 H2 n3 rm4 rv2 r2 => ?_
  cases p with
  | non =>
    cases rv2
    exact ⟨rfl, fun _ => r2 (.ref x) I2 H2 (Nx.refl I2 H2) rm4 (.loc (n3.get hl))⟩
  | _ => exact r2.elim
theorem lookup_rvs {K : PySem.W.Frag} {B I : List Addr} {H : Hp} {f : Str} {p : PV} : ∀ {ws : List (Str × V)} {fs : List (Str × PV)}, ws.map (·.1) = fs.map (·.1) → RVs K B I H (ws.map (·.2)) (fs.map (·.2)) → fs.lookup f = some p → ∃ v, ws.lookup f = some v ∧ RV K B I H v p
  | [], [], _, _, h => by cases h
  | [], _ :: _, h, _, _ => by cases h
  | _ :: _, [], h, _, _ => by cases h
  | (n, v) :: ws, (n', q) :: fs, hn, r, h => by
    simp only [List.map_cons, List.cons.injEq] at hn
    obtain ⟨rfl, hn⟩ := hn
    cases r with
    | cons r rs =>
      simp only [List.lookup_cons] at h ⊢
      split at h
      · cases h
        exact ⟨v, rfl, r⟩
      · exact lookup_rvs hn rs h
theorem clsOf_mem {S : Stc} {f C : Str} (h : C ∈ S.clsOf f) : (C, f) ∈ S.flds := by
  unfold Stc.clsOf at h
  obtain ⟨⟨c, g⟩, h1, rfl⟩ := List.mem_map.mp h
  obtain ⟨h2, h3⟩ := List.mem_filter.mp h1
  have h3 := of_decide_eq_true h3
  simp only at h3
  subst h3
  exact h2
theorem fldS_some {cs : List Str} {f : Str} {m : Mu} {p q : PV} (h : fldS cs f m p = some q) : ∃ l C fs, p = .loc l ∧ m[l]? = some (.ins C fs) ∧ C ∈ cs ∧ fs.lookup f = some q := by
  unfold fldS at h
  split at h
  · rename_i l
    split at h
    · rename_i C fs hm
      split at h
      · rename_i hc
        exact ⟨l, C, fs, rfl, hm, hc, h⟩
      · cases h
    · cases h
  · cases h
theorem s_fld {f : Str} (o : XOk S Φ W X) (hc : isCall0 ea = false) (ha : PE X ea (rE X W (ev Φ a))) : PE X (.Attribute ea f pos) (rE X W (ev Φ (.fld (S.clsOf f) a f))) := by
  refine pe_imp (pe_fld ha (attrBase hc)) fun σ H Q ⟨ρ, m, I, B, rs, r⟩ => ?_
  simp only [ev] at r
  refine ⟨ρ, m, I, B, rs, r.seq fun p m1 _ v I1 H1 n1 rm1 rv1 r => ?_⟩
  cases e : fldS (S.clsOf f) f m1 p with
  | none => rw [e] at r; exact r.elim
  | some q =>
    rw [e] at r
    obtain ⟨l, C, fs, rfl, hm, hcs, hl⟩ := fldS_some e
    cases rv1 with
    | loc ha =>
      obtain ⟨Ca, dx, ws, hn, hoc, hH, hnm, rvs⟩ := rm1.at_ _ _ _ ha hm
      obtain ⟨w, hw, rw_⟩ := lookup_rvs hnm rvs hl
      exact ⟨_, Ca, dx, ws, w, rfl, hH, hoc.cl, o.flds C f (clsOf_mem hcs) Ca hn, hw, fun _ => r w I1 H1 (Nx.refl I1 H1) rm1 rw_⟩
end
/-! ### a static method -/
section
variable {X : Cx} {pins : List (Addr × Obj)} {σ : L2.St} {H : Hp} {s : Shared} {C g : Addr} {m : Str} {A : Around} {E : Value → Shared → Prop}
theorem getsm_ok {pl : Sem Bool} {Q : Value × List Value → Shared → Prop} (I : L2.Inv X pins σ H s) (k : SMet X.K C m g)
    (h : ∀ s', L2.Inv X pins σ H s' → Q (.ref g, []) s') : wpAny (model X.prog X.w) A (getMethod (.ref C) m pl) Q E s := by
  obtain ⟨p, ha, rest, hp⟩ := k.at_
  refine PySem.W.method_cls I.kIn k.rd.ga ?_
  refine PySem.W.cls_bind I.kIn k.rd.rd ha ?_
  refine wpAny_call (PySem.W.sm_get (s := { s with toks := s.toks + 1 }) I.kIn hp (PySem.W.handed_on rfl ?_))
  exact h _ (I.tok _)
end
section
variable {X : Cx} {CX : CXT} {k : Nat} {C g : Addr} {fd : FuncData} {ps : List Str} {sp : Sp} {E : L2.St → XK} {o e : Expr} {es : List Expr} {m : Str} {apos pos : Pos} {ta : TE} {t : TA}
def tSMeth (C : Addr) (sp : Sp) (E : L2.St → XK) (ta : TE) (t : TA) : TE := fun σ H Q => ta σ H fun x H1 => x = .ref C ∧ t σ H1 fun vs H2 => sp vs H2 Q (E σ)
theorem pe_smeth (he : PE X o ta) (c : SMet X.K C m g) (F : FnOk X.prog X.w X.K X.mg X.base CX k g fd ps sp) (hr : Room k X.A) (hb : Binds X.K fd ps []) (hx : ∀ σ, PassesAt CX X σ (E σ)) (ha : PA X (e :: es) t)
    (hbase : attributeBase o m X.env (eval o X.env) = eval o X.env)
    (hfew : ((backTo pos (starEach (e :: es) X.env)).all (fun x => !x.1) && (backToKw pos (keywordEach [] X.env)).all (fun x => x.1.isSome)
      && decide ((e :: es).length + ([] : List Keyword).length + (if ([] : List Keyword).isEmpty then 0 else 1) < 30)) = true)
    (hline : (apos.endLine == pos.line) = true)
    (hst : starEach (e :: es) X.env = (false, eval e X.env) :: starEach es X.env) (hpl : (backTo pos (starEach es X.env)).any (·.1) = false) :
    PE X (.Call (.Attribute o m apos) (e :: es) [] pos) (tSMeth C sp E ta t) := by
  refine ⟨fun pins s σ H Q I h => ?_⟩
  rw [arm_eval_Call, hbase]
  refine wpAny_bind (thn (he.run pins s σ H _ I h) fun u s1 ⟨x, H1, I1, rx, ex, q⟩ => ?_)
  subst ex
  obtain rfl : u = Value.ref C := rx
  refine wpAny_bind (wpAny_standAt ?_)
  have last : ∀ s2, L2.Inv X pins σ H1 s2 → wpAny (model X.prog X.w) X.A (callWith pos (.ref g) [] (backTo pos (starEach (e :: es) X.env)) (backToKw pos (keywordEach [] X.env))) (EP X pins σ Q) X.xe s2 := fun s2 I2 =>
    PySem.W.callWith_K (h₀ := X.base) (first := []) I2.ok.mod.kin c.kp (thn (ha.run pos _ s2 σ H1 _ I2 q) fun us s3 ⟨vs, H2, I3, rv, q2⟩ => ⟨I3.kIn, run_fnS F hr hb (hx σ) I3 rv q2⟩) hst hpl
  first
    | (
       have hform : methodCallForm ((e :: es).length + ([] : List Keyword).length) (backTo pos (starEach (e :: es) X.env)) (backToKw pos (keywordEach [] X.env)) = true := hfew
       have hpos : methodCallPos true o X.env apos pos = pure pos := by unfold methodCallPos; simp [hline]
       unfold methodCall
       rw [hform]
       refine wpAny_bind (wpAny_holding (getsm_ok I1 c fun s2 I2 => ?_))
       exact wpAny_bind (wpAny_of_eq hpos (last s2 I2)))
    | (
       have hform : methodCallForm ((e :: es).length + ([] : List Keyword).length) (backTo pos (starEach (e :: es) X.env)) (backToKw pos (keywordEach [] X.env)) = true := hfew
       unfold methodCall calleeOf methodCallPos
       simp only [hform, hline, if_true, Bool.not_true, Bool.or_true]
       refine wpAny_bind (wpAny_holding (getsm_ok I1 c fun s2 I2 => ?_))
       exact wpAny_bind (wpAny_pure (last s2 I2)))
end
section
variable {S : Stc} {Φ : FEnv} {W : WX} {X : Cx} {eo ea : Expr} {a : Ex} {m C : Str} {p1 p2 : Pos}
theorem s_static (o : XOk S Φ W X) (h : statM S m eo = some C) (hs : isStar ea = false) (hl : (p1.endLine == p2.line) = true) (ha : PE X ea (rE X W (ev Φ a))) : PE X (.Call (.Attribute eo m p1) [ea] [] p2) (rE X W (ev Φ (.call (statOf C m) (.cons false a .nil)))) := by
  unfold statM at h
  split at h
  · rename_i C' np
    split at h
    · rename_i hc
      cases h
      simp only [Bool.and_eq_true] at hc
      obtain ⟨g1, g2, g3⟩ := gl_some o hc.1.1
      obtain ⟨Ca, fa, fd, ps, k, h1, h2, h3, h4, h5⟩ := (o.sms C m (by simpa using hc.2)).ex
      refine pe_imp (pe_smeth (pe_glob (v := .ref Ca) g1 h1 rfl g2) h2 h5 h3 h4 (fun σ => passAt o.tk σ) (a_cons (as := .nil) hs ha a_nil) (attrBase rfl) (by rw [starEach_plain hs]; rfl) hl (starEach_plain hs) rfl) fun σ H Q ⟨ρ, m, I, B, rs, r⟩ => ?_
      simp only [ev] at r
      refine ⟨rfl, ρ, m, I, B, rs, r.seq fun xs m1 _ vs I1 H1 n1 rm1 rv1 r => ?_⟩
      exact ⟨xs, m1, I1, B, rm1, rv1, r.mono (fun _ _ q _ => q) fun _ _ _ q => q⟩
    · cases h
  · cases h
end
end Sn
namespace Sn
open PySem PySem.Spec PyProof.Rows L2 RZ
section
variable {X : Cx} {pins : List (Addr × Obj)} {σ : L2.St} {H : Hp} {s1 : Shared} {tg : Expr} {R : It → Hp → Prop} {a : Addr}
theorem py_list {xs : List V} (I1 : L2.Inv X pins σ H s1) (hq : SqL X.K H a xs) (q : R (Itl X.K a) H) : wpAny (model X.prog X.w) X.A (pyIter (.ref a)) (PIE X pins σ tg R) X.xe s1 := by
  obtain ⟨its, rv, p, hz⟩ := Inv.list I1 hq
  exact wpAny_pyIter_list (PlainL.isList p) (pi_one I1 _ (turn_list a s1.heap.objs.size) ⟨_, Heap.get?_push_size s1.heap rfl, rfl, rfl⟩ q)
theorem py_tup {xs : List V} (I1 : L2.Inv X pins σ H s1) (hq : SqT X.K H a xs) (q : R (Itt X.K a) H) : wpAny (model X.prog X.w) X.A (pyIter (.ref a)) (PIE X pins σ tg R) X.xe s1 := by
  obtain ⟨its, rv, p, hz⟩ := Inv.tuple I1 hq
  exact wpAny_pyIter_tuple p (pi_one I1 _ (turn_tuple a s1.heap.objs.size) ⟨_, Heap.get?_push_size s1.heap rfl, rfl, rfl⟩ q)
theorem py_str {x : Str} {t : Tok} (I1 : L2.Inv X pins σ H s1) (q : R (Its x) H) : wpAny (model X.prog X.w) X.A (pyIter (.str x t)) (PIE X pins σ tg R) X.xe s1 := by
  cases h : x.cps.all fun x => decide (x < 128) with
  | true => exact wpAny_pyIter_ascii h (pi_one I1 _ (turn_str s1.heap.objs.size x t "str_ascii_iterator" (.inl rfl)) ⟨_, Heap.get?_push_size s1.heap rfl, rfl, rfl⟩ q)
  | false => exact wpAny_pyIter_wide h (pi_one I1 _ (turn_str s1.heap.objs.size x t "str_iterator" (.inr rfl)) ⟨_, Heap.get?_push_size s1.heap rfl, rfl, rfl⟩ q)
end
/-- a list, a tuple or a string, walked -/
def iAny (K : PySem.W.Frag) (te : TE) : TI := fun σ H R => te σ H fun v H1 => KF K H1 → (∃ a, v = .ref a ∧ (∃ xs, SqL K H1 a xs) ∧ R (Itl K a) H1) ∨ (∃ a, v = .ref a ∧ (∃ xs, SqT K H1 a xs) ∧ R (Itt K a) H1) ∨ ∃ x, v = .str x ∧ R (Its x) H1
theorem pi_any {X : Cx} {tg l : Expr} {tl : TE} (hl : PE X l tl) : PI X tg l (iAny X.K tl) := by
  refine ⟨fun pins s σ H R I h => thn (hl.run pins s σ H _ I h) fun v s1 ⟨x, H1, I1, r1, q⟩ => ?_⟩
  rcases q (Inv.kfree I1) with ⟨a, rfl, ⟨xs, hq⟩, q'⟩ | ⟨a, rfl, ⟨xs, hq⟩, q'⟩ | ⟨x, rfl, q'⟩
  · cases r1
    exact py_list I1 hq q'
  · cases r1
    exact py_tup I1 hq q'
  · obtain ⟨t, rfl⟩ := r1
    exact py_str I1 q'
theorem pi_imp {X : Cx} {tg l : Expr} {t t' : TI} (h : PI X tg l t) (k : ∀ σ H R, t' σ H R → t σ H R) : PI X tg l t' :=
  ⟨fun pins s σ H R I q => h.run pins s σ H R I (k σ H R q)⟩
/-! ### what a walk gives -/
/-- further on, perhaps with more hidden -/
structure Fut (I B I' B' : List Addr) (H H' : Hp) : Prop where
  nx : Nx I I' H H'
  hid : ∀ a ∈ B', a ∈ B ∨ H a = none
def rJ (K : PySem.W.Frag) (B I : List Addr) (H : Hp) (m : Mu) (J : It) (w : Wd) : Prop := ∀ I' B' H' m', Fut I B I' B' H H' → RM K B' I' H' m' → keeps w.2 m m' →
  (∀ i x, w.1[i]? = some x → J.go i H' ∧ ∀ v H2, J.yld i H' v H2 → Same H' H2 ∧ RV K B' I' H2 v x) ∧ ∀ i, w.1.length ≤ i → J.stop i H'
abbrev rI (X : Cx) (W : WX) (f : Rho → Mu → Res Wd) : TI := fun σ H R => ∃ ρ m I B, RS X.K B I H σ ρ m ∧ rok X.mg X.K (fun I1 H1 m1 J w => rJ X.K B I1 H1 m1 J w) B I H R (fun c d H' => W c d σ H') (f ρ m)
section
variable {K : PySem.W.Frag} {I I' B B' : List Addr} {H H' : Hp} {m m' : Mu}
mutual
theorem RV.fut (n : Fut I B I' B' H H') (tf : RM K B I H m) (tf' : RM K B' I' H' m') : ∀ {v : V} {p : PV}, RV K B I H v p → RV K B' I' H' v p
  | _, _, .non => .non
  | _, _, .bl b => .bl b
  | _, _, .int i => .int i
  | _, _, .str x => .str x
  | _, _, .ty x => .ty x
  | _, _, .tup h hs => .tup (n.nx.tupK tf h) (RVs.fut n tf tf' hs)
  | _, _, .dct h ha hb hd hs => .dct (n.nx.drd h ha) (n.nx.fresh ha (by rcases h with h | ⟨ks, o, _, h⟩ <;> rw [h] <;> simp)) (fun hm => by
      refine (n.hid _ hm).elim hb fun e => ?_
      rcases h with h | ⟨ks, o, _, h⟩ <;> rw [h] at e <;> cases e) hd (RVs.fut n tf tf' hs)
  | _, _, .lst h ha hb hs => .lst (n.nx.keep _ _ h ha) (n.nx.fresh ha (by rw [h]; simp)) (fun hm => (n.hid _ hm).elim hb fun e => by rw [h] at e; cases e) (RVs.fut n tf tf' hs)
  | _, _, .scr h hs => .scr (h.imp (fun ⟨h, ha, hb⟩ => ⟨n.nx.rd h ha, n.nx.fresh ha (by rcases h with h | ⟨o, h⟩ <;> rw [h] <;> simp), fun hm => by
      refine (n.hid _ hm).elim hb fun e => ?_
      rcases h with h | ⟨o, h⟩ <;> rw [h] at e <;> cases e⟩) id) (RVs.fut n tf tf' hs)
  | _, _, .loc (l := l) h => .loc (n.nx.get h)
theorem RVs.fut (n : Fut I B I' B' H H') (tf : RM K B I H m) (tf' : RM K B' I' H' m') : ∀ {vs : List V} {ps : List PV}, RVs K B I H vs ps → RVs K B' I' H' vs ps
  | _, _, .nil => .nil
  | _, _, .cons h hs => .cons (RV.fut n tf tf' h) (RVs.fut n tf tf' hs)
end
theorem get_of {vs : List V} {xs : List PV} (rs : RVs K B I H vs xs) {i : Nat} {x : PV} (e : xs[i]? = some x) : ∃ v, vs[i]? = some v ∧ RV K B I H v x := rs.get e
theorem rJ_list {a : Addr} {vs : List V} {xs : List PV} (rm : RM K B I H m) (hq : ∀ I' H', Nx I I' H H' → SqL K H' a vs) (rs : RVs K B I H vs xs) : rJ K B I H m (Itl K a) (xs, []) := by
  intro I' B' H' m' n rm' _
  have hq' := hq _ _ n.nx
  have rs' := rs.fut n rm rm'
  refine ⟨fun i x e => ?_, fun i hi => ⟨vs, hq', by rw [rs.length]; exact hi⟩⟩
  obtain ⟨v, ev, rv⟩ := rs'.get e
  refine ⟨⟨vs, v, hq', ev⟩, fun u H2 ⟨e2, k⟩ => ?_⟩
  subst e2
  have := k vs hq'
  rw [ev] at this; cases this
  exact ⟨Same.refl _, rv⟩
theorem rJ_tup {a : Addr} {vs : List V} {xs : List PV} (rm : RM K B I H m) {g : Bool} (hq : TupR H a g vs) (rs : RVs K B I H vs xs) : rJ K B I H m (Itt K a) (xs, []) := by
  intro I' B' H' m' n rm' _
  have hq' : SqT K H' a vs := (n.nx.tupK rm hq).sq
  have rs' := rs.fut n rm rm'
  refine ⟨fun i x e => ?_, fun i hi => ⟨vs, hq', by rw [rs.length]; exact hi⟩⟩
  obtain ⟨v, ev, rv⟩ := rs'.get e
  refine ⟨⟨vs, v, hq', ev⟩, fun u H2 ⟨e2, k⟩ => ?_⟩
  subst e2
  have := k vs hq'
  rw [ev] at this; cases this
  exact ⟨Same.refl _, rv⟩
theorem rJ_loc {a : Addr} {l : Nat} {xs : List PV} (hl : I[l]? = some a) (hm : m[l]? = some (.lst xs)) : rJ K B I H m (Itl K a) (xs, [l]) := by
  intro I' B' H' m' n rm' kp
  have e := n.nx.get hl
  have hm' : m'[l]? = some (.lst xs) := (kp l (by simp)).trans hm
  obtain ⟨vs, hv, rs'⟩ := rm'.at_ l a _ e hm'
  have hq' : SqL K H' a vs := .inl (.inl hv)
  refine ⟨fun i x e => ?_, fun i hi => ⟨vs, hq', by rw [rs'.length]; exact hi⟩⟩
  obtain ⟨v, ev, rv⟩ := rs'.get e
  refine ⟨⟨vs, v, hq', ev⟩, fun u H2 ⟨e2, k⟩ => ?_⟩
  subst e2
  have := k vs hq'
  rw [ev] at this; cases this
  exact ⟨Same.refl _, rv⟩
theorem rJ_str {z : Str} : rJ K B I H m (Its z) (z.cps.toList.map fun c => .str ⟨#[c]⟩, []) := by
  intro I' B' H' m' n rm' _
  refine ⟨fun i x e => ?_, fun i hi => by simpa [Its] using hi⟩
  rw [List.getElem?_map, Option.map_eq_some_iff] at e
  obtain ⟨c, ec, rfl⟩ := e
  have hc : z.cps[i]? = some c := by simpa using ec
  refine ⟨(Array.getElem?_eq_some_iff.mp hc).1, fun u H2 ⟨e2, c', e3, e4⟩ => ?_⟩
  subst e2 e4
  rw [hc] at e3; cases e3
  exact ⟨Same.refl _, .str _⟩
theorem rJ_rng {i j : Int} {xs : List PV} (h : rngS i j = some xs) : rJ K B I H m (Itr i (j - i).toNat) (xs, []) := by
  intro I' B' H' m' n rm' _
  unfold rngS at h
  split at h
  · cases h
    refine ⟨fun k x e => ?_, fun k hk => by simpa [Itr] using hk⟩
    rw [List.getElem?_map, Option.map_eq_some_iff] at e
    obtain ⟨c, ec, rfl⟩ := e
    obtain ⟨h1, h2⟩ := List.getElem?_eq_some_iff.mp ec
    rw [List.getElem_range] at h2
    subst h2
    rw [List.length_range] at h1
    refine ⟨h1, fun u H2 ⟨e2, e3⟩ => ?_⟩
    subst e2 e3
    exact ⟨Same.refl _, .int _⟩
  · cases h
theorem rngS_ok {i j : Int} {xs : List PV} (h : rngS i j = some xs) : -(2 ^ 62) ≤ i ∧ i < 2 ^ 62 ∧ -(2 ^ 62) ≤ j ∧ j < 2 ^ 62 := by
  unfold rngS at h
  split at h
  · assumption
  · cases h
theorem zip_get {α β γ : Type} {f : α → β → γ} : ∀ {xs : List α} {ys : List β} {i : Nat} {z : γ}, (List.zipWith f xs ys)[i]? = some z → ∃ x y, xs[i]? = some x ∧ ys[i]? = some y ∧ z = f x y := by
  intro xs ys i z h
  rw [List.getElem?_zipWith] at h
  split at h
  · rename_i x y e1 e2
    cases h
    exact ⟨x, y, e1, e2, rfl⟩
  · cases h
theorem RVs.get1 {vs : List V} {xs : List PV} (r : RVs K B I H vs xs) {i : Nat} {x : PV} {v : V} (e : xs[i]? = some x) (e' : vs[i]? = some v) : RV K B I H v x := by
  obtain ⟨u, e2, ru⟩ := r.get e
  rw [e'] at e2; cases e2; exact ru
/-- two walks at once -/
theorem rJ_zip {a b : Addr} {p q : Wd} (h1 : rJ K B I H m (Itl K a) p) (h2 : rJ K B I H m (Itl K b) q) : rJ K B I H m (Itz K a b) (zipS p.1 q.1, p.2 ++ q.2) := by
  intro I' B' H' m' n rm' kp
  obtain ⟨g1, s1⟩ := h1 I' B' H' m' n rm' fun l hl => kp l (by simp [hl])
  obtain ⟨g2, s2⟩ := h2 I' B' H' m' n rm' fun l hl => kp l (by simp [hl])
  refine ⟨fun i x e => ?_, fun i hi => ?_⟩
  · obtain ⟨x1, x2, e1, e2, rfl⟩ := zip_get e
    obtain ⟨⟨vs, v, hv, ev⟩, y1⟩ := g1 i x1 e1
    obtain ⟨⟨us, u, hu, eu⟩, y2⟩ := g2 i x2 e2
    refine ⟨⟨vs, us, v, u, hv, hu, ev, eu⟩, fun w H2 ⟨T, t1, t2, e3, nT, e4, k1, k2⟩ => ?_⟩
    subst e3 e4
    have f1 := (y1 t1 H' ⟨rfl, k1⟩).2
    have f2 := (y2 t2 H' ⟨rfl, k2⟩).2
    exact ⟨upd_same_of nT, RV.newT rm' nT (.cons f1 (.cons f2 .nil))⟩
  · simp only [zipS, List.length_zipWith] at hi
    obtain ⟨vs, hv, lv⟩ := s1 p.1.length (Nat.le_refl _)
    obtain ⟨us, hu, lu⟩ := s2 q.1.length (Nat.le_refl _)
    refine ⟨vs, us, hv, hu, ?_⟩
    rcases Nat.le_total p.1.length q.1.length with h | h
    · exact .inl (Nat.le_trans lv (by rw [Nat.min_eq_left h] at hi; exact hi))
    · exact .inr (Nat.le_trans lu (by rw [Nat.min_eq_right h] at hi; exact hi))
theorem rJ_zipT {a b : Addr} {p q : Wd} (h1 : rJ K B I H m (Itt K a) p) (h2 : rJ K B I H m (Itt K b) q) : rJ K B I H m (ItzT K a b) (zipS p.1 q.1, p.2 ++ q.2) := by
  intro I' B' H' m' n rm' kp
  obtain ⟨g1, s1⟩ := h1 I' B' H' m' n rm' fun l hl => kp l (by simp [hl])
  obtain ⟨g2, s2⟩ := h2 I' B' H' m' n rm' fun l hl => kp l (by simp [hl])
  refine ⟨fun i x e => ?_, fun i hi => ?_⟩
  · obtain ⟨x1, x2, e1, e2, rfl⟩ := zip_get e
    obtain ⟨⟨vs, v, hv, ev⟩, y1⟩ := g1 i x1 e1
    obtain ⟨⟨us, u, hu, eu⟩, y2⟩ := g2 i x2 e2
    refine ⟨⟨vs, us, v, u, hv, hu, ev, eu⟩, fun w H2 ⟨T, t1, t2, e3, nT, e4, k1, k2⟩ => ?_⟩
    subst e3 e4
    have f1 := (y1 t1 H' ⟨rfl, k1⟩).2
    have f2 := (y2 t2 H' ⟨rfl, k2⟩).2
    exact ⟨upd_same_of nT, RV.newT rm' nT (.cons f1 (.cons f2 .nil))⟩
  · simp only [zipS, List.length_zipWith] at hi
    obtain ⟨vs, hv, lv⟩ := s1 p.1.length (Nat.le_refl _)
    obtain ⟨us, hu, lu⟩ := s2 q.1.length (Nat.le_refl _)
    refine ⟨vs, us, hv, hu, ?_⟩
    rcases Nat.le_total p.1.length q.1.length with h | h
    · exact .inl (Nat.le_trans lv (by rw [Nat.min_eq_left h] at hi; exact hi))
    · exact .inr (Nat.le_trans lu (by rw [Nat.min_eq_right h] at hi; exact hi))
theorem rJ_enm {a : Addr} {p : Wd} (h1 : rJ K B I H m (Itl K a) p) : rJ K B I H m (Ite K a) (enmS p.1, p.2) := by
  intro I' B' H' m' n rm' kp
  obtain ⟨g1, s1⟩ := h1 I' B' H' m' n rm' kp
  refine ⟨fun i x e => ?_, fun i hi => ?_⟩
  · obtain ⟨k, x1, e1, e2, rfl⟩ := zip_get e
    obtain ⟨⟨vs, v, hv, ev⟩, y1⟩ := g1 i x1 e2
    refine ⟨⟨vs, v, hv, ev⟩, fun w H2 ⟨T, t1, e3, nT, e4, k1⟩ => ?_⟩
    subst e3 e4
    obtain ⟨q1, q2⟩ := List.getElem?_eq_some_iff.mp e1
    rw [List.getElem_range] at q2
    subst q2
    have f1 := (y1 t1 H' ⟨rfl, k1⟩).2
    exact ⟨upd_same_of nT, RV.newT rm' nT (.cons (.int _) (.cons f1 .nil))⟩
  · simp only [enmS, List.length_zipWith, List.length_range, Nat.min_self] at hi
    exact s1 i hi
/-- a list's walk, a tuple's walk -/
theorem walk_L {v : V} {p : PV} {w : Wd} (rm : RM K B I H m) (rv : RV K B I H v p) (hw : walkS m p = some w) (hl : isL p = true) : ∃ a vs, v = .ref a ∧ SqL K H a vs ∧ rJ K B I H m (Itl K a) w := by
  cases rv with
  | lst h ha hb rs => cases hw; exact ⟨_, _, rfl, .inl (.inl h), rJ_list rm (fun _ _ n => .inl (.inl (n.keep _ _ h ha))) rs⟩
  | scr h rs => cases hw; exact ⟨_, _, rfl, h.sq, rJ_list rm (fun _ _ n => h.elim (fun h => .inl (n.rd h.1 h.2.1)) fun h => h.1 _) rs⟩
  | loc e =>
    simp only [walkS] at hw
    split at hw
    · rename_i xs hm
      cases hw
      obtain ⟨vs, hv, _⟩ := rm.at_ _ _ _ e hm
      exact ⟨_, _, rfl, .inl (.inl hv), rJ_loc e hm⟩
    · cases hw
  | _ => simp [isL] at hl
theorem walk_T {v : V} {p : PV} {w : Wd} (rm : RM K B I H m) (rv : RV K B I H v p) (hw : walkS m p = some w) (hl : isT p = true) : ∃ a vs, v = .ref a ∧ SqT K H a vs ∧ rJ K B I H m (Itt K a) w := by
  cases rv with
  | tup h rs => cases hw; exact ⟨_, _, rfl, h.sq, rJ_tup rm h rs⟩
  | _ => simp [isT] at hl
end
section
variable {S : Stc} {Φ : FEnv} {W : WX} {X : Cx} {ea eb tg : Expr} {a b : Ex} {pos p2 : Pos}
theorem oWd_some {mg : Str → Option Value} {K : PySem.W.Frag} {B I : List Addr} {H : Hp} {m : Mu} {R : List Addr → Hp → Mu → It → Wd → Prop} {Q : It → Hp → Prop} {E : XK} {o : Option Wd} (h : rok mg K R B I H Q E (oWd m o)) : ∃ w, o = some w ∧ rok mg K R B I H Q E (.ok w m) := by
  cases o with
  | none => exact h.elim
  | some w => exact ⟨w, rfl, h⟩
theorem w_seq (ha : PE X ea (rE X W (ev Φ a))) : PI X tg ea (rI X W (evw Φ (.seq a))) := by
  refine pi_imp (pi_any ha) fun σ H R ⟨ρ, m, I, B, rs, r⟩ => ?_
  simp only [evw] at r
  refine ⟨ρ, m, I, B, rs, r.seq fun p m1 _ v I1 H1 n1 rm1 rv1 r kf => ?_⟩
  obtain ⟨w, hw, r⟩ := oWd_some r
  cases rv1 with
  | lst h hi hb q => cases hw; exact .inl ⟨_, rfl, ⟨_, .inl (.inl h)⟩, r _ I1 H1 (Nx.refl _ _) rm1 (rJ_list rm1 (fun _ _ n => .inl (.inl (n.keep _ _ h hi))) q)⟩
  | scr h q => cases hw; exact .inl ⟨_, rfl, ⟨_, h.sq⟩, r _ I1 H1 (Nx.refl _ _) rm1 (rJ_list rm1 (fun _ _ n => h.elim (fun h => .inl (n.rd h.1 h.2.1)) fun h => h.1 _) q)⟩
  | tup h q => cases hw; exact .inr (.inl ⟨_, rfl, ⟨_, h.sq⟩, r _ I1 H1 (Nx.refl _ _) rm1 (rJ_tup rm1 h q)⟩)
  | str z => cases hw; exact .inr (.inr ⟨_, rfl, r _ I1 H1 (Nx.refl _ _) rm1 rJ_str⟩)
  | loc e =>
    obtain ⟨a, vs, e1, e2, e3⟩ := walk_L rm1 (.loc e) hw rfl
    rw [hw] at r
    exact .inl ⟨a, e1, ⟨_, e2⟩, r _ I1 H1 (Nx.refl _ _) rm1 e3⟩
  | _ => cases hw
theorem rok.one {α : Type} {β : Type} {mg : Str → Option Value} {K : PySem.W.Frag} {B I : List Addr} {H : Hp} {R : List Addr → Hp → Mu → β → α → Prop} {Q : β → Hp → Prop} {Q2 : List V → Hp → Prop} {E : XK} {x : Res PV} {g : PV → Mu → Res α} (h : rok mg K R B I H Q E (x.bind g))
    (k : ∀ r m1 v I1 H1, Nx I I1 H H1 → RM K B I1 H1 m1 → RV K B I1 H1 v r → rok mg K R B I1 H1 Q E (g r m1) → Q2 [v] H1) : rok mg K (rVs K B) B I H Q2 E (x.bind fun p m => .ok [p] m) := by
  cases x with
  | ok r m =>
    intro vs I' H' n rm rvs
    cases rvs with
    | cons rv q => cases q; exact k r m _ I' H' n rm rv (rok.nx h n)
  | exc c p m => exact h
  | stuck => exact h
theorem rok.pair {α : Type} {β : Type} {mg : Str → Option Value} {K : PySem.W.Frag} {B I : List Addr} {H : Hp} {R : List Addr → Hp → Mu → β → α → Prop} {Q : β → Hp → Prop} {Q2 : List V → Hp → Prop} {E : XK} {x : Res PV} {y : Mu → Res PV} {g : PV → PV → Mu → Res α} (h : rok mg K R B I H Q E (x.bind fun p m => (y m).bind fun q m => g p q m))
    (k : ∀ r r' m1 v v' I1 H1, Nx I I1 H H1 → RM K B I1 H1 m1 → RV K B I1 H1 v r → RV K B I1 H1 v' r' → rok mg K R B I1 H1 Q E (g r r' m1) → Q2 [v, v'] H1) : rok mg K (rVs K B) B I H Q2 E (x.bind fun p m => (y m).bind fun q m => .ok [p, q] m) := by
  cases x with
  | ok r m =>
    simp only [ok_bind] at h ⊢
    cases hy : y m with
    | ok r' m' =>
      rw [hy] at h
      intro vs I' H' n rm rvs
      cases rvs with
      | cons rv q =>
        cases q with
        | cons rv' q' => cases q'; exact k r r' m' _ _ I' H' n rm rv rv' (rok.nx h n)
    | exc c p m => rw [hy] at h; exact h
    | stuck => rw [hy] at h; exact h
  | exc c p m => exact h
  | stuck => exact h
theorem evs_one {ρ : Rho} {m : Mu} : evs Φ (.cons false a .nil) ρ m = (ev Φ a ρ m).bind fun p m => .ok [p] m := by
  simp only [evs, Bool.false_eq_true, if_false, ok_bind]
theorem evs_two {ρ : Rho} {m : Mu} : evs Φ (.cons false a (.cons false b .nil)) ρ m = (ev Φ a ρ m).bind fun p m => (ev Φ b ρ m).bind fun q m => .ok [p, q] m := by
  simp only [evs, Bool.false_eq_true, if_false, ok_bind, bind_assoc]
theorem any_one {e : Expr} {env : Env} (h : isStar e = false) : ((backTo pos (starEach [e] env)).any fun x => x.1) = false := by
  rw [backTo_any, starEach_none (by simp [h])]
theorem w_rng (o : XOk S Φ W X) (hg : S.gl "range" = true) (hs : isStar ea = false) (ha : PE X ea (rE X W (ev Φ a))) : PI X tg (.Call (.Name "range" p2) [ea] [] pos) (rI X W (evw Φ (.rng a))) := by
  refine pi_imp (pi_range1 (gl_some o hg).1 o.rng (a_cons (as := .nil) hs ha a_nil) (starEach_plain hs)) fun σ H R ⟨ρ, m, I, B, rs, r⟩ => ?_
  simp only [evw] at r
  refine ⟨ρ, m, I, B, rs, ?_⟩
  rw [evs_one]
  refine r.one fun p m1 v I1 H1 n1 rm1 rv1 r => ?_
  split at r
  · cases rv1
    obtain ⟨w, hw, r⟩ := oWd_some r
    obtain ⟨xs, hx, rfl⟩ := Option.map_eq_some_iff.mp hw
    obtain ⟨_, _, b1, b2⟩ := rngS_ok hx
    refine ⟨_, rfl, b1, b2, ?_⟩
    have z := rJ_rng (K := X.K) (B := B) (I := I1) (H := H1) (m := m1) hx
    rw [Int.sub_zero] at z
    exact r _ I1 H1 (Nx.refl _ _) rm1 z
  · exact r.elim
theorem w_rng2 (o : XOk S Φ W X) (hg : S.gl "range" = true) (hs : isStar ea = false) (hs2 : isStar eb = false) (ha : PE X ea (rE X W (ev Φ a))) (hb : PE X eb (rE X W (ev Φ b))) : PI X tg (.Call (.Name "range" p2) [ea, eb] [] pos) (rI X W (evw Φ (.rng2 a b))) := by
  refine pi_imp (pi_range2 (gl_some o hg).1 o.rng (a_cons (as := .cons false b .nil) hs ha (a_cons (as := .nil) hs2 hb a_nil)) (by rw [starEach_plain hs, starEach_plain hs2]; rfl) (starEach_plain hs2)) fun σ H R ⟨ρ, m, I, B, rs, r⟩ => ?_
  simp only [evw] at r
  refine ⟨ρ, m, I, B, rs, ?_⟩
  rw [evs_two]
  refine r.pair fun p q m1 v v' I1 H1 n1 rm1 rv1 rv2 r => ?_
  split at r
  · cases rv1
    cases rv2
    obtain ⟨w, hw, r⟩ := oWd_some r
    obtain ⟨xs, hx, rfl⟩ := Option.map_eq_some_iff.mp hw
    exact ⟨_, _, rfl, rngS_ok hx, r _ I1 H1 (Nx.refl _ _) rm1 (rJ_rng hx)⟩
  · exact r.elim
theorem w_zip {es : List Expr} {k : Nat} {tpos : Pos} (o : XOk S Φ W X) (hg : S.gl "zip" = true) (hs : isStar ea = false) (hs2 : isStar eb = false) (ha : PE X ea (rE X W (ev Φ a))) (hb : PE X eb (rE X W (ev Φ b))) : PI X (.Tuple es k tpos) (.Call (.Name "zip" p2) [ea, eb] [] pos) (rI X W (evw Φ (.zip a b))) := by
  refine pi_imp (pi_zipA (gl_some o hg).1 o.zp (a_cons (as := .cons false b .nil) hs ha (a_cons (as := .nil) hs2 hb a_nil)) (starEach_plain hs) (any_one hs2)) fun σ H R ⟨ρ, m, I, B, rs, r⟩ => ?_
  simp only [evw] at r
  refine ⟨ρ, m, I, B, rs, ?_⟩
  rw [evs_two]
  refine r.pair fun p q m1 v v' I1 H1 n1 rm1 rv1 rv2 r => ?_
  split at r
  · rename_i xs ws ys us h1 h2
    split at r
    · rename_i hc
      simp only [Bool.or_eq_true, Bool.and_eq_true] at hc
      rcases hc with ⟨c1, c2⟩ | ⟨c1, c2⟩
      · obtain ⟨a, vs, rfl, q1, j1⟩ := walk_L rm1 rv1 h1 c1
        obtain ⟨b, us, rfl, q2, j2⟩ := walk_L rm1 rv2 h2 c2
        exact ⟨a, b, vs, us, rfl, .inl ⟨q1, q2, r _ I1 H1 (Nx.refl _ _) rm1 (rJ_zip j1 j2)⟩⟩
      · obtain ⟨a, vs, rfl, q1, j1⟩ := walk_T rm1 rv1 h1 c1
        obtain ⟨b, us, rfl, q2, j2⟩ := walk_T rm1 rv2 h2 c2
        exact ⟨a, b, vs, us, rfl, .inr ⟨q1, q2, r _ I1 H1 (Nx.refl _ _) rm1 (rJ_zipT j1 j2)⟩⟩
    · exact r.elim
  · exact r.elim
theorem w_enm {es : List Expr} {k : Nat} {tpos : Pos} (o : XOk S Φ W X) (hg : S.gl "enumerate" = true) (hs : isStar ea = false) (ha : PE X ea (rE X W (ev Φ a))) : PI X (.Tuple es k tpos) (.Call (.Name "enumerate" p2) [ea] [] pos) (rI X W (evw Φ (.enm a))) := by
  refine pi_imp (pi_enum (gl_some o hg).1 o.enm (a_cons (as := .nil) hs ha a_nil) (starEach_plain hs)) fun σ H R ⟨ρ, m, I, B, rs, r⟩ => ?_
  simp only [evw] at r
  refine ⟨ρ, m, I, B, rs, ?_⟩
  rw [evs_one]
  refine r.one fun p m1 v I1 H1 n1 rm1 rv1 r => ?_
  split at r
  · rename_i xs ws h1
    split at r
    · rename_i hc
      obtain ⟨a, vs, rfl, q1, j1⟩ := walk_L rm1 rv1 h1 hc
      exact ⟨a, vs, rfl, q1, r _ I1 H1 (Nx.refl _ _) rm1 (rJ_enm j1)⟩
    · exact r.elim
  · exact r.elim
end
end Sn
namespace Sn
open PySem PySem.Spec PyProof.Rows L2 RZ
section
variable {K : PySem.W.Frag} {I B : List Addr} {H : Hp} {m : Mu}
theorem RS.wipe {σ : L2.St} {ρ : Rho} (h : RS K B I H σ ρ m) : ∀ is : List Nat, RS K B I H (wipe σ is) (wipeR ρ is) m
  | [] => h
  | i :: is => by
    have ih := h.wipe is
    refine ⟨ih.rm, by simp [L2.wipe, wipeR, ih.len], fun j p e => ?_⟩
    simp only [wipeR] at e
    have hj : j ≠ i := fun e2 => by
      subst e2
      rw [List.getElem?_set] at e
      simp only [if_true] at e
      split at e <;> cases e
    rw [List.getElem?_set_ne (Ne.symm hj)] at e
    obtain ⟨v, e1, e2⟩ := ih.at_ j p e
    exact ⟨v, by simp only [L2.wipe]; rw [List.getElem?_set_ne (Ne.symm hj)]; exact e1, e2⟩
end
/-- the slots is may have changed -/
def Only (is : List Nat) (σ σ' : L2.St) : Prop := ∀ vs : List Nat, (∀ i ∈ is, i ∈ vs) → wipe σ' vs = wipe σ vs
theorem Only.refl (is : List Nat) (σ : L2.St) : Only is σ σ := fun _ _ => rfl
theorem Only.trans {is : List Nat} {σ σ1 σ2 : L2.St} (a : Only is σ σ1) (b : Only is σ1 σ2) : Only is σ σ2 := fun vs h => (b vs h).trans (a vs h)
theorem wipe_set {σ : L2.St} {i : Nat} {v : Option V} : ∀ {vs : List Nat}, i ∈ vs → wipe (σ.set i v) vs = wipe σ vs
  | j :: vs, h => by
    simp only [wipe]
    by_cases hm : i ∈ vs
    · rw [wipe_set hm]
    · have e : i = j := by
        rcases List.mem_cons.mp h with h | h
        · exact h
        · exact absurd h hm
      subst e
      have key : ∀ {ws : List Nat}, i ∉ ws → wipe (σ.set i v) ws = (wipe σ ws).set i v := by
        intro ws
        induction ws with
        | nil => intro _; rfl
        | cons k ws ih =>
          intro hn
          simp only [List.mem_cons, not_or] at hn
          simp only [wipe]
          rw [ih hn.2, List.set_comm _ _ hn.1]
      rw [key hm, List.set_set]
theorem Only.set {σ : L2.St} {i : Nat} {v : Option V} {is : List Nat} (h : i ∈ is) : Only is σ (σ.set i v) := fun vs hv => wipe_set (hv i h)
theorem Only.mono {is js : List Nat} {σ σ' : L2.St} (h : Only is σ σ') (k : ∀ i ∈ is, i ∈ js) : Only js σ σ' := fun vs hv => h vs fun i hi => hv i (k i hi)
/-- the wish when a value is put -/
abbrev rG (X : Cx) (tg : Tg) : TG := fun v σ H Q => KF X.K H → ∃ ρ m I B p ρ', RS X.K B I H σ ρ m ∧ RV X.K B I H v p ∧ bindT tg p ρ = some ρ' ∧ ∀ σ', RS X.K B I H σ' ρ' m → Only tg.slots σ σ' → Q σ' H
abbrev rGs (X : Cx) (is : List Nat) : TGs := fun vs σ H Q => ∃ ρ m I B ps, RS X.K B I H σ ρ m ∧ RVs X.K B I H vs ps ∧ ps.length = is.length ∧ ∀ σ', RS X.K B I H σ' (setAll ρ is ps) m → Only is σ σ' → Q σ' H
section
variable {S : Stc} {Φ : FEnv} {W : WX} {X : Cx}
theorem put_some (o : XOk S Φ W X) {x : Str} {i : Nat} (h : S.put x = some i) : X.N[i]? = some x ∧ L2.Loc X.env.scope x ∧ (X.fn x = true ∨ X.env.scope.names.lookup x = some .local) := by
  have key : ∀ {j}, S.N.idxOf? x = some j → S.N[j]? = some x := fun {j} e => by
    unfold List.idxOf? at e
    obtain ⟨hlt, hb, _⟩ := List.findIdx?_eq_some_iff_getElem.mp e
    rw [List.getElem?_eq_getElem hlt]
    simpa using hb
  unfold Stc.put at h
  rw [o.N, o.sc]
  unfold L2.Loc
  split at h
  · rename_i e
    exact ⟨key h, .inl e, .inr e⟩
  · rename_i e
    split at h
    · rename_i hc
      exact ⟨key h, .inr e, .inl (o.fn x (by simpa using hc))⟩
    · cases h
  · cases h
theorem pg_imp {e : Expr} {t t' : TG} (h : PG X e t) (k : ∀ v σ H Q, KF X.K H → t' v σ H Q → t v σ H Q) : PG X e t' :=
  ⟨fun pins s σ H v u Q I r q => h.run pins s σ H v u Q I r (k v σ H Q (Inv.kfree I) q)⟩
theorem pgs_imp {es : List Expr} {t t' : TGs} (h : PGs X es t) (k : ∀ v σ H Q, t' v σ H Q → t v σ H Q) : PGs X es t' :=
  ⟨fun pins s σ H v u Q I r q => h.run pins s σ H v u Q I r (k v σ H Q q)⟩
theorem g_name (o : XOk S Φ W X) {x : Str} {i : Nat} {pos : Pos} (h : S.put x = some i) : PG X (.Name x pos) (rG X (.nm i)) := by
  obtain ⟨h1, h2, h3⟩ := put_some o h
  refine pg_imp (pg_name o.nd h1 h2 h3) fun v σ H Q kf q => ?_
  obtain ⟨ρ, m, I, B, p, ρ', rs, rv, e, k⟩ := q kf
  simp only [bindT, Option.some.injEq] at e
  subst e
  exact k _ (rs.set rv) (Only.set (by simp [Tg.slots]))
theorem setAll_len : ∀ {is : List Nat} {ps : List PV} {ρ : Rho}, (setAll ρ is ps).length = ρ.length
  | [], _, _ => rfl
  | _ :: _, [], _ => rfl
  | i :: is, p :: ps, ρ => by simp only [setAll]; rw [setAll_len]; simp
theorem assignEach_name {x : Str} {pos : Pos} {es : List Expr} {env : Env} : assignEach (.Name x pos :: es) env = (false, assign (.Name x pos) env) :: assignEach es env := rfl
theorem g_names (o : XOk S Φ W X) : ∀ {es : List Expr} {is : List Nat}, trNs S es = some is → PGs X es (rGs X is) ∧ (assignEach es X.env).length = is.length ∧ ∀ p ∈ assignEach es X.env, p.1 = false
  | [], is, h => by
    simp only [trNs, Option.some.injEq] at h
    subst h
    refine ⟨pgs_imp pgs_nil fun vs σ H Q ⟨ρ, m, I, B, ps, rs, rv, e, k⟩ => ?_, rfl, by simp [assignEach]⟩
    cases rv with
    | nil => exact ⟨rfl, k _ rs (Only.refl _ _)⟩
    | cons _ _ => simp at e
  | e :: es, is, h => by
    simp only [trNs] at h
    split at h
    · rename_i i is' h1 h2
      cases h
      cases e with
      | Name x pos =>
        obtain ⟨q1, q2, q3⟩ := g_names o h2
        obtain ⟨n1, n2, n3⟩ := put_some o h1
        refine ⟨pgs_imp (pgs_cons (pg_name o.nd n1 n2 n3) q1 rfl) fun vs σ H Q ⟨ρ, m, I, B, ps, rs, rv, e, k⟩ => ?_, by rw [assignEach_name]; simp [q2], fun p hp => ?_⟩
        · cases rv with
          | nil => simp at e
          | cons rv rvs =>
            refine ⟨_, _, rfl, ρ.set i (some _), m, I, B, _, rs.set rv, rvs, by simpa using e, fun σ' rs' on => ?_⟩
            exact k σ' rs' ((Only.set (by simp)).trans (on.mono fun j hj => List.mem_cons_of_mem _ hj))
        · rw [assignEach_name] at hp
          rcases List.mem_cons.mp hp with rfl | hp
          · rfl
          · exact q3 p hp
      | _ => simp [trN] at h1
    · cases h
/-- a tuple or a list, taken apart -/
def gAny (K : PySem.W.Frag) (n : Nat) (t : TGs) : TG := fun v σ H Q => gTup K n t v σ H Q ∨ gLst K n t v σ H Q
theorem pg_any {pos : Pos} {es : List Expr} {k : Nat} {t : TGs} {n : Nat} (hc : X.calm = true) (h : PGs X es t) (hn : (assignEach es X.env).length = n) (hs : (assignEach es X.env).findIdx? (fun x => x.1) = none) : PG X (.Tuple es k pos) (gAny X.K n t) :=
  ⟨fun pins s σ H v u Q I r q => q.elim ((pg_tup hc h hn hs).run pins s σ H v u Q I r) ((pg_lst hc h hn hs).run pins s σ H v u Q I r)⟩
theorem g_tup (o : XOk S Φ W X) {es : List Expr} {is : List Nat} {k : Nat} {pos : Pos} (h : trNs S es = some is) : PG X (.Tuple es k pos) (rG X (.tup is)) := by
  obtain ⟨h1, h2, h3⟩ := g_names o h
  refine pg_imp (pg_any o.calm h1 h2 (List.findIdx?_eq_none_iff.mpr fun p hp => h3 p hp)) fun v σ H Q kf q => ?_
  obtain ⟨ρ, m, I, B, p, ρ', rs, rv, e, k⟩ := q kf
  cases rv with
  | tup hq rvs =>
    simp only [bindT] at e
    split at e
    · rename_i hn
      cases e
      exact .inl ⟨_, _, rfl, hq.sq, by rw [rvs.length]; exact hn, ρ, m, I, B, _, rs, rvs, hn, k⟩
    · cases e
  | lst hq _ _ rvs =>
    simp only [bindT] at e
    split at e
    · rename_i hn
      cases e
      exact .inr ⟨_, _, rfl, .inl (.inl hq), by rw [rvs.length]; exact hn, ρ, m, I, B, _, rs, rvs, hn, k⟩
    · cases e
  | _ => simp [bindT] at e
theorem g_any (o : XOk S Φ W X) {e : Expr} {tg : Tg} (h : trG S e = some tg) : PG X e (rG X tg) := by
  cases e with
  | Name x pos =>
    simp only [trG] at h
    obtain ⟨i, hi, rfl⟩ := Option.map_eq_some_iff.mp h
    exact g_name o hi
  | Tuple es k pos =>
    simp only [trG] at h
    obtain ⟨i, hi, rfl⟩ := Option.map_eq_some_iff.mp h
    exact g_tup o hi
  | _ => simp [trG] at h
end
end Sn
namespace Sn
open PySem PySem.Spec PyProof.Rows L2 RZ
section
variable {K : PySem.W.Frag} {I I' B : List Addr} {H H' : Hp} {m m' : Mu} {D : Addr} {acc : List V} {o o0 : HO}
/-! ### a list that grows, hidden -/
mutual
theorem RV.hide (hD : D ∈ B) (e : H D = some o0) (hn : ∀ vs, o0 ≠ .tup vs ∧ ∀ q, o0 ≠ .frz q (.tup vs)) : ∀ {v : V} {p : PV}, RV K B I H v p → RV K B I (upd H D o) v p
  | _, _, .non => .non
  | _, _, .bl b => .bl b
  | _, _, .int i => .int i
  | _, _, .str x => .str x
  | _, _, .ty x => .ty x
  | _, _, .tup (a := a) h hs => .tup (by
      have hne : a ≠ D := fun e2 => by subst e2; exact TupR.ne e hn h
      exact h.imp fun q e => by rw [upd_ne hne]; exact e) (RVs.hide hD e hn hs)
  | _, _, .dct (a := a) h ha hb hd hs => .dct (by
      have hne : a ≠ D := fun e2 => by subst e2; exact hb hD
      unfold DRd
      rw [upd_ne hne]; exact h) ha hb hd (RVs.hide hD e hn hs)
  | _, _, .lst (a := a) h ha hb hs => .lst (by
      have hne : a ≠ D := fun e2 => by subst e2; exact hb hD
      rw [upd_ne hne]; exact h) ha hb (RVs.hide hD e hn hs)
  | _, _, .scr (a := a) h hs => .scr (by
      rcases h with ⟨h, ha, hb⟩ | h
      · refine .inl ⟨?_, ha, hb⟩
        have hne : a ≠ D := fun e2 => by subst e2; exact hb hD
        unfold Rd
        rw [upd_ne hne]
        exact h
      · exact .inr h) (RVs.hide hD e hn hs)
  | _, _, .loc h => .loc h
theorem RVs.hide (hD : D ∈ B) (e : H D = some o0) (hn : ∀ vs, o0 ≠ .tup vs ∧ ∀ q, o0 ≠ .frz q (.tup vs)) : ∀ {vs : List V} {ps : List PV}, RVs K B I H vs ps → RVs K B I (upd H D o) vs ps
  | _, _, .nil => .nil
  | _, _, .cons h hs => .cons (RV.hide hD e hn h) (RVs.hide hD e hn hs)
end
theorem RM.hide (h : RM K B I H m) (hD : D ∈ B) (e : H D = some o0) (hn : ∀ vs, o0 ≠ .tup vs ∧ ∀ q, o0 ≠ .frz q (.tup vs)) : RM K B I (upd H D o) m := by
  refine ⟨h.len, h.nod, fun a ha => ?_, h.dis, fun l a q e1 e2 => ?_⟩
  · by_cases hne : a = D
    · subst hne; rw [upd_same]; simp
    · rw [upd_ne hne]; exact h.trB a ha
  · have hne : a ≠ D := fun e4 => by
      subst e4
      exact h.dis a hD (List.mem_of_getElem? e1)
    exact (h.at_ l a q e1 e2).to (fun o e3 => by rw [upd_ne hne]; exact e3) fun _ _ r => r.hide hD e hn
mutual
theorem RV.weak {B' : List Addr} (k : ∀ a ∈ B, a ∈ B') : ∀ {v : V} {p : PV}, RV K B' I H v p → RV K B I H v p
  | _, _, .non => .non
  | _, _, .bl b => .bl b
  | _, _, .int i => .int i
  | _, _, .str x => .str x
  | _, _, .ty x => .ty x
  | _, _, .tup h hs => .tup h (RVs.weak k hs)
  | _, _, .dct h ha hb hd hs => .dct h ha (fun hm => hb (k _ hm)) hd (RVs.weak k hs)
  | _, _, .lst h ha hb hs => .lst h ha (fun hm => hb (k _ hm)) (RVs.weak k hs)
  | _, _, .scr h hs => .scr (h.imp (fun ⟨h, ha, hb⟩ => ⟨h, ha, fun hm => hb (k _ hm)⟩) id) (RVs.weak k hs)
  | _, _, .loc h => .loc h
theorem RVs.weak {B' : List Addr} (k : ∀ a ∈ B, a ∈ B') : ∀ {vs : List V} {ps : List PV}, RVs K B' I H vs ps → RVs K B I H vs ps
  | _, _, .nil => .nil
  | _, _, .cons h hs => .cons (RV.weak k h) (RVs.weak k hs)
end
theorem RM.weak {B' : List Addr} (k : ∀ a ∈ B, a ∈ B') (h : RM K B' I H m) : RM K B I H m := by
  refine ⟨h.len, h.nod, fun a ha => h.trB a (k a ha), fun a ha => h.dis a (k a ha), fun l a q e1 e2 => ?_⟩
  exact (h.at_ l a q e1 e2).to (fun o e3 => e3) fun _ _ r => r.weak k
theorem RS.fut {B' : List Addr} {σ : L2.St} {ρ : Rho} (h : RS K B I H σ ρ m) (n : Fut I B I' B' H H') (rm : RM K B' I' H' m') : RS K B' I' H' σ ρ m' :=
  ⟨rm, h.len, fun i p e => let ⟨v, e1, e2⟩ := h.at_ i p e; ⟨v, e1, e2.fut n h.rm rm⟩⟩
mutual
/-- what was there does not stand for the new one -/
theorem RV.fresh (hD : H D = none) : ∀ {v : V} {p : PV}, RV K B I H v p → RV K (D :: B) I (upd H D o) v p
  | _, _, .non => .non
  | _, _, .bl b => .bl b
  | _, _, .int i => .int i
  | _, _, .str x => .str x
  | _, _, .ty x => .ty x
  | _, _, .tup (a := a) h hs => .tup (by
      have hne : a ≠ D := fun e2 => by subst e2; exact h.some hD
      exact h.imp fun q e => by rw [upd_ne hne]; exact e) (RVs.fresh hD hs)
  | _, _, .dct (a := a) h ha hb hd hs => by
      have hne : a ≠ D := fun e2 => by
        subst e2
        rcases h with h | ⟨_, _, _, h⟩ <;> rw [hD] at h <;> cases h
      exact .dct (by unfold DRd; rw [upd_ne hne]; exact h) ha (by simp only [List.mem_cons, not_or]; exact ⟨hne, hb⟩) hd (RVs.fresh hD hs)
  | _, _, .lst (a := a) h ha hb hs => by
      have hne : a ≠ D := fun e2 => by subst e2; rw [hD] at h; cases h
      exact .lst (by rw [upd_ne hne]; exact h) ha (by simp only [List.mem_cons, not_or]; exact ⟨hne, hb⟩) (RVs.fresh hD hs)
  | _, _, .scr (a := a) h hs => .scr (by
      rcases h with ⟨h, ha, hb⟩ | h
      · have hne : a ≠ D := fun e2 => by
          subst e2
          rcases h with h | ⟨_, h⟩ <;> rw [hD] at h <;> cases h
        refine .inl ⟨?_, ha, by simp only [List.mem_cons, not_or]; exact ⟨hne, hb⟩⟩
        unfold Rd
        rw [upd_ne hne]
        exact h
      · exact .inr h) (RVs.fresh hD hs)
  | _, _, .loc h => .loc h
theorem RVs.fresh (hD : H D = none) : ∀ {vs : List V} {ps : List PV}, RVs K B I H vs ps → RVs K (D :: B) I (upd H D o) vs ps
  | _, _, .nil => .nil
  | _, _, .cons h hs => .cons (RV.fresh hD h) (RVs.fresh hD hs)
end
/-- a new list comes, hidden -/
theorem RM.fresh (h : RM K B I H m) (hD : H D = none) : RM K (D :: B) I (upd H D o) m := by
  have hI : D ∉ I := h.new hD
  have rm0 : RM K B I (upd H D o) m := h.same (upd_same_of hD)
  refine ⟨h.len, h.nod, fun a ha => ?_, fun a ha => ?_, fun l a q e1 e2 => ?_⟩
  · rcases List.mem_cons.mp ha with rfl | ha
    · rw [upd_same]; simp
    · exact rm0.trB a ha
  · rcases List.mem_cons.mp ha with rfl | ha
    · exact hI
    · exact h.dis a ha
  · have z := h.at_ l a q e1 e2
    have hne : a ≠ D := fun e4 => by subst e4; exact z.ne0 hD
    exact z.to (fun o e3 => by rw [upd_ne hne]; exact e3) fun _ _ r => r.fresh hD
theorem show_mem {a : Addr} (ha : a ∉ I) (hb : a ∉ D :: B) : a ∉ I ++ [D] := by
  simp only [List.mem_append, List.mem_singleton, not_or]
  simp only [List.mem_cons, not_or] at hb
  exact ⟨ha, hb.1⟩
mutual
/-- what was hidden comes among the things that change -/
theorem RV.show : ∀ {v : V} {p : PV}, RV K (D :: B) I H v p → RV K B (I ++ [D]) H v p
  | _, _, .non => .non
  | _, _, .bl b => .bl b
  | _, _, .int i => .int i
  | _, _, .str x => .str x
  | _, _, .ty x => .ty x
  | _, _, .tup h hs => .tup h (RVs.show hs)
  | _, _, .dct h ha hb hd hs => .dct h (show_mem ha hb) (fun hm => hb (List.mem_cons_of_mem _ hm)) hd (RVs.show hs)
  | _, _, .lst h ha hb hs => .lst h (show_mem ha hb) (fun hm => hb (List.mem_cons_of_mem _ hm)) (RVs.show hs)
  | _, _, .scr h hs => .scr (h.imp (fun ⟨h, ha, hb⟩ => ⟨h, show_mem ha hb, fun hm => hb (List.mem_cons_of_mem _ hm)⟩) id) (RVs.show hs)
  | _, _, .loc (l := l) h => .loc (by rw [List.getElem?_append_left (List.getElem?_eq_some_iff.mp h).1]; exact h)
theorem RVs.show : ∀ {vs : List V} {ps : List PV}, RVs K (D :: B) I H vs ps → RVs K B (I ++ [D]) H vs ps
  | _, _, .nil => .nil
  | _, _, .cons h hs => .cons (RV.show h) (RVs.show hs)
end
theorem RM.show (h : RM K (D :: B) I H m) (gr : H D = some (.lst acc)) {ys : List PV} (rs : RVs K (D :: B) I H acc ys) (hB : D ∉ B) : D ∉ I ∧ RM K B (I ++ [D]) H (m ++ [.lst ys]) := by
  have hI : D ∉ I := h.dis D (by simp)
  have hBn : ∀ a ∈ B, a ∈ D :: B := fun a ha => List.mem_cons_of_mem _ ha
  refine ⟨hI, by simp [h.len], ?_, fun a ha => h.trB a (hBn a ha), fun a ha => ?_, fun l a o e1 e2 => ?_⟩
  · rw [List.nodup_append]
    exact ⟨h.nod, by simp, fun x hx y hy => by simp at hy; subst hy; exact fun e => hI (e ▸ hx)⟩
  · simp only [List.mem_append, List.mem_singleton, not_or]
    exact ⟨h.dis a (hBn a ha), fun e => hB (e ▸ ha)⟩
  · by_cases hl : l < I.length
    · rw [List.getElem?_append_left hl] at e1
      rw [List.getElem?_append_left (by rw [← h.len]; exact hl)] at e2
      exact (h.at_ l a o e1 e2).to (fun q e3 => e3) fun _ _ r => r.show
    · have hl2 : l = I.length := by
        have := (List.getElem?_eq_some_iff.mp e1).1
        simp at this; omega
      subst hl2
      rw [List.getElem?_append_right (Nat.le_refl _)] at e1
      rw [h.len, List.getElem?_append_right (Nat.le_refl _)] at e2
      simp at e1 e2
      subst e1 e2
      exact ⟨acc, gr, rs.show⟩
end
end Sn
namespace Sn
open PySem PySem.Spec PyProof.Rows L2 RZ
abbrev Wf : WX := fun _ _ _ _ => False
theorem noX_ok {α : Type} {r : Res α} {a : α} {m : Mu} (h : noX r = .ok a m) : r = .ok a m := by
  cases r <;> simp_all [noX]
theorem noX_or {α : Type} (r : Res α) : (∃ a m, noX r = .ok a m) ∨ noX r = .stuck := by
  cases r with
  | ok a m => exact .inl ⟨a, m, rfl⟩
  | _ => exact .inr rfl
section
variable {X : Cx} {W : WX}
theorem pts_imp {ifs : List Expr} {t t' : TT} (h : PTs X ifs t) (k : ∀ σ H Q, t' σ H Q → t σ H Q) : PTs X ifs t' :=
  ⟨fun pins s σ H Q I q => h.run pins s σ H Q I (k σ H Q q)⟩
theorem rT_ok {f : Rho → Mu → Res Bool} {σ : L2.St} {H : Hp} {Q : Bool → Hp → Prop} {ρ : Rho} {m m' : Mu} {I B : List Addr} {b : Bool} (rs : RS X.K B I H σ ρ m) (e : f ρ m = .ok b m')
    (k : ∀ I' H', Nx I I' H H' → RM X.K B I' H' m' → Q b H') : rT X W f σ H Q := ⟨ρ, m, I, B, rs, by rw [e]; exact fun v I' H' n rm rv => by cases rv; exact k I' H' n rm⟩
theorem rE_ok {f : Rho → Mu → Res PV} {σ : L2.St} {H : Hp} {Q : VK} {ρ : Rho} {m m' : Mu} {I B : List Addr} {p : PV} (rs : RS X.K B I H σ ρ m) (e : f ρ m = .ok p m')
    (k : ∀ v I' H', Nx I I' H H' → RM X.K B I' H' m' → RV X.K B I' H' v p → Q v H') : rE X W f σ H Q := ⟨ρ, m, I, B, rs, by rw [e]; exact k⟩
end
/-! ### a comprehension's own step -/
noncomputable def stepC (Φ : FEnv) (tg : Tg) (own : List Nat) (c e : Ex) (ρ : Rho) (x : PV) (m1 : Mu) : Res (List PV) := match bindT tg x (wipeR ρ own) with
  | some ρ' => noX ((ev Φ c ρ' m1).bind fun p m2 => (boolR p m2).bind fun b m2 => if b = true then (ev Φ e ρ' m2).bind fun y m3 => .ok [y] m3 else .ok [] m2)
  | none => .stuck
theorem ev_comp {Φ : FEnv} {tg : Tg} {it : Wk} {own : List Nat} {c e : Ex} {ρ : Rho} {m : Mu} : ev Φ (.comp tg it own c e) ρ m = (evw Φ it ρ m).bind fun w m0 => if w.1.length ≤ sizeLine then (collect (stepC Φ tg own c e ρ) (keeps w.2 m0) w.1 m0).bind fun ys m => .ok (.lst ys) m else .stuck := by
  simp only [ev]
  rfl
/-- what a step that comes to an end has done -/
theorem stepC_ok {Φ : FEnv} {tg : Tg} {own : List Nat} {c e : Ex} {ρ : Rho} {x : PV} {m1 m3 : Mu} {ys : List PV} (h : stepC Φ tg own c e ρ x m1 = .ok ys m3) :
    ∃ ρ', bindT tg x (wipeR ρ own) = some ρ' ∧ ∃ b m2, evT Φ c ρ' m1 = .ok b m2 ∧ ((b = true ∧ ∃ y, ev Φ e ρ' m2 = .ok y m3 ∧ ys = [y]) ∨ (b = false ∧ ys = [] ∧ m3 = m2)) := by
  unfold stepC at h
  split at h
  · rename_i ρ' e1
    have h := noX_ok h
    refine ⟨ρ', e1, ?_⟩
    unfold evT
    cases e2 : ev Φ c ρ' m1 with
    | ok p m2 =>
      rw [e2] at h
      simp only [ok_bind] at h ⊢
      cases e3 : boolR p m2 with
      | ok b m2' =>
        rw [e3] at h
        simp only [ok_bind] at h
        refine ⟨b, m2', rfl, ?_⟩
        cases b with
        | true =>
          simp only [if_true] at h
          cases e4 : ev Φ e ρ' m2' with
          | ok y m4 =>
            rw [e4] at h
            simp only [ok_bind, Res.ok.injEq] at h
            exact .inl ⟨rfl, y, by rw [h.2], h.1.symm⟩
          | exc _ _ _ => rw [e4] at h; cases h
          | stuck => rw [e4] at h; cases h
        | false =>
          simp only [Bool.false_eq_true, if_false, Res.ok.injEq] at h
          exact .inr ⟨rfl, h.1.symm, h.2.symm⟩
      | exc _ _ _ => rw [e3] at h; cases h
      | stuck => rw [e3] at h; cases h
    | exc _ _ _ => rw [e2] at h; cases h
    | stuck => rw [e2] at h; cases h
  · cases h
theorem stepC_or {Φ : FEnv} {tg : Tg} {own : List Nat} {c e : Ex} {ρ : Rho} {x : PV} {m1 : Mu} : (∃ ys m3, stepC Φ tg own c e ρ x m1 = .ok ys m3) ∨ stepC Φ tg own c e ρ x m1 = .stuck := by
  unfold stepC
  split
  · exact noX_or _
  · exact .inr rfl
/-- going on within a walk: what is to come, given what was -/
structure Mid (K : PySem.W.Frag) (B : List Addr) (D : Addr) (I0 : List Addr) (H0 : Hp) (m0 : Mu) (f : PV → Mu → Res (List PV)) (ok : Mu → Prop) (xs : List PV) (pre : List PV) (i : Nat) (H : Hp) (I1 : List Addr) (m1 : Mu) (ys : List PV) (acc : List V) : Prop where
  nx : Nx I0 I1 H0 H
  rm : RM K (D :: B) I1 H m1
  gr : H D = some (.lst acc)
  rs : RVs K (D :: B) I1 H acc (pre ++ ys)
  eq : collect f ok xs m0 = (collect f ok (xs.drop i) m1).bind fun zs m => .ok (ys ++ zs) m
theorem bind_ok_nil {r : Res (List PV)} : (r.bind fun zs m => .ok ([] ++ zs) m) = r := by cases r <;> rfl
theorem collect_cons {f : PV → Mu → Res (List PV)} {ok : Mu → Prop} {x : PV} {xs : List PV} {m : Mu} (h : ok m) : collect f ok (x :: xs) m = (f x m).bind fun ys m => (collect f ok xs m).bind fun zs m => .ok (ys ++ zs) m := by
  simp only [collect, if_pos h]
theorem collect_no {f : PV → Mu → Res (List PV)} {ok : Mu → Prop} {xs : List PV} {m : Mu} (h : ¬ ok m) : collect f ok xs m = .stuck := by
  cases xs <;> simp only [collect, if_neg h]
theorem collect_nil {f : PV → Mu → Res (List PV)} {ok : Mu → Prop} {m : Mu} (h : ok m) : collect f ok [] m = .ok [] m := by
  simp only [collect, if_pos h]
theorem drop_cons {α : Type} {xs : List α} {i : Nat} {x : α} (e : xs[i]? = some x) : xs.drop i = x :: xs.drop (i + 1) := by
  obtain ⟨h, e⟩ := List.getElem?_eq_some_iff.mp e
  rw [List.drop_eq_getElem_cons h, e]
theorem wipe_wipe {σ : L2.St} {vs : List Nat} : ∀ {ws : List Nat}, (∀ i ∈ ws, i ∈ vs) → wipe (wipe σ ws) vs = wipe σ vs
  | [], _ => rfl
  | i :: ws, h => by
    simp only [wipe]
    rw [wipe_set (h i (by simp)), wipe_wipe fun j hj => h j (by simp [hj])]
section
variable {S : Stc} {Φ : FEnv} {W : WX} {X : Cx} {tg : Tg} {it : Wk} {own : List Nat} {c e : Ex}
theorem comp_gen {f : List PV → Mu → Res PV} {σ : L2.St} {H : Hp} {Q : VK} (hown : ∀ i ∈ tg.slots, i ∈ own)
    (hfin : ∀ {B I0 I1 : List Addr} {H0 H : Hp} {m1 : Mu} {ys : List PV} {D : Addr} {acc : List V} {E : XK}, Nx I0 I1 H0 H → RM X.K (D :: B) I1 H m1 → H D = some (.lst acc) → RVs X.K (D :: B) I1 H acc ys → H0 D = none → D ∉ B → rok X.mg X.K (rV X.K B) B I0 H0 Q E (f ys m1) → Q (.ref D) H)
    (h : rE X W (fun ρ m => (evw Φ it ρ m).bind fun w m0 => if w.1.length ≤ sizeLine then (collect (stepC Φ tg own c e ρ) (keeps w.2 m0) w.1 m0).bind f else .stuck) σ H Q) :
    tLc (rI X W (evw Φ it)) (rG X tg) (rT X Wf (evT Φ c)) (fun σ H Q => KF X.K H → rE X Wf (ev Φ e) σ H Q) own σ H Q := by
  obtain ⟨ρ, m, I, B, rs, r⟩ := h
  simp only [] at r
  refine ⟨ρ, m, I, B, rs, r.seq fun w m0 _ J I0 H0 n0 rm0 hJ r => ?_⟩
  intro D hD
  split at r
  rotate_left
  · exact r.elim
  rename_i hlen
  have rs0 := rs.nx n0 rm0
  refine ⟨fun i k H => ∃ I1 m1 ys acc, Mid X.K B D I0 H0 m0 (stepC Φ tg own c e ρ) (keeps w.2 m0) w.1 [] i H I1 m1 ys acc ∧ ys.length ≤ i ∧ k + i = w.1.length, ⟨w.1.length, I0, m0, [], [], ⟨Nx.same I0 (upd_same_of hD), rm0.fresh hD, upd_same, .nil, ?_⟩, Nat.le_refl _, rfl⟩, ?_⟩
  · rw [List.drop_zero, bind_ok_nil]
  · rintro i k H ⟨I1, m1, ys, acc, md, hy, hk⟩
    have fut : Fut I0 B I1 (D :: B) H0 H := ⟨md.nx, fun a ha => by
      rcases List.mem_cons.mp ha with rfl | ha
      · exact .inr hD
      · exact .inl ha⟩
    rw [md.eq, bind_assoc] at r
    by_cases hok : keeps w.2 m0 m1
    rotate_left
    · rw [collect_no hok] at r; exact r.elim
    obtain ⟨jg, js⟩ := hJ I1 (D :: B) H m1 fut md.rm hok
    cases ei : w.1[i]? with
    | none =>
      have hi : w.1.length ≤ i := by simpa using ei
      refine .inl ⟨js i hi, ?_⟩
      rw [List.drop_eq_nil_of_le hi, collect_nil hok] at r
      simp only [ok_bind, List.append_nil] at r
      have hr := md.rs
      rw [List.nil_append] at hr
      exact hfin md.nx md.rm md.gr hr hD (rm0.newB hD) r
    | some x =>
      obtain ⟨g1, g2⟩ := jg i x ei
      have hi : i < w.1.length := (List.getElem?_eq_some_iff.mp ei).1
      refine .inr ⟨g1, fun H' => ∃ I1 m1 ys acc, Mid X.K B D I0 H0 m0 (stepC Φ tg own c e ρ) (keeps w.2 m0) w.1 [] (i + 1) H' I1 m1 ys acc ∧ ys.length ≤ i + 1, fun H' ⟨I2, m2, ys2, acc2, q1, q2⟩ => ⟨k - 1, by omega, I2, m2, ys2, acc2, q1, q2, by omega⟩, fun v H2 hy2 => ?_⟩
      obtain ⟨sm, rv⟩ := g2 v H2 hy2
      have rm2 := md.rm.same sm
      have rsW := (((rs0.fut fut md.rm).nx (Nx.same I1 sm) rm2).wipe own)
      rw [drop_cons ei, collect_cons hok, bind_assoc] at r
      intro kf2
      rcases stepC_or (Φ := Φ) (tg := tg) (own := own) (c := c) (e := e) (ρ := ρ) (x := x) (m1 := m1) with ⟨zs, m3, es⟩ | es
      rotate_left
      · rw [es] at r; exact r.elim
      have heq : collect (stepC Φ tg own c e ρ) (keeps w.2 m0) w.1 m0 = (collect (stepC Φ tg own c e ρ) (keeps w.2 m0) (w.1.drop (i + 1)) m3).bind fun us m => .ok ((ys ++ zs) ++ us) m := by
        rw [md.eq, drop_cons ei, collect_cons hok, es]
        simp only [ok_bind, bind_assoc, List.append_assoc]
      obtain ⟨ρ', hb, b, m2, hc, hcase⟩ := stepC_ok es
      refine ⟨_, m1, I1, D :: B, x, ρ', rsW, rv, hb, fun σ2 rs2 on => ⟨(on own hown).trans (wipe_wipe fun _ h => h), ?_⟩⟩
      refine rT_ok rs2 hc fun I3 H3 n3 rm3 => ?_
      have n03 : Nx I0 I3 H0 H3 := (md.nx.trans (Nx.same I1 sm)).trans n3
      have gr3 : H3 D = some (.lst acc) := n3.keep _ _ (sm _ _ md.gr) (md.rm.dis D (by simp))
      have ra3 : RVs X.K (D :: B) I3 H3 acc ([] ++ ys) := (md.rs.same sm md.rm).nx n3 rm2
      rcases hcase with ⟨rfl, y, he, rfl⟩ | ⟨rfl, rfl, rfl⟩
      · rw [if_pos rfl]
        intro kf3
        refine rE_ok (rs2.nx n3 rm3) he fun u I4 H4 n4 rm4 rv4 => ?_
        have gr4 : H4 D = some (.lst acc) := n4.keep _ _ gr3 (rm3.dis D (by simp))
        have ra4 := ra3.nx n4 rm3
        have hacc : acc.length = ys.length := by rw [md.rs.length, List.nil_append]
        refine ⟨acc, gr4, by omega, I4, m3, ys ++ [y], acc ++ [u], ⟨?_, rm4.hide (by simp) gr4 (by simp), upd_same, ?_, heq⟩, by simp; omega⟩
        · have n04 := n03.trans n4
          refine ⟨n04.ext, fun a o ea hI => ?_, fun a ha => ?_⟩
          · have hne : a ≠ D := fun e2 => by subst e2; rw [hD] at ea; cases ea
            rw [upd_ne hne]
            exact n04.keep a o ea hI
          · by_cases hne : a = D
            · subst hne; rw [upd_same] at ha; cases ha
            · rw [upd_ne hne] at ha; exact n04.dom a ha
        · rw [← List.append_assoc]
          exact (ra4.append (.cons rv4 .nil)).hide (by simp) gr4 (by simp)
      · rw [if_neg (by simp)]
        exact ⟨I3, m3, ys ++ [], acc, ⟨n03, rm3, gr3, by rw [List.append_nil]; exact ra3, heq⟩, by simp; omega⟩
theorem comp_rd {σ : L2.St} {H : Hp} {Q : VK} (hown : ∀ i ∈ tg.slots, i ∈ own) (h : rE X W (ev Φ (.comp tg it own c e)) σ H Q) :
    tLc (rI X W (evw Φ it)) (rG X tg) (rT X Wf (evT Φ c)) (fun σ H Q => KF X.K H → rE X Wf (ev Φ e) σ H Q) own σ H Q := by
  refine comp_gen (f := fun ys m => .ok (.lst ys) m) hown (fun nx rm gr rs hD hB r => ?_) ?_
  · exact r _ _ _ nx (rm.weak fun a ha => List.mem_cons_of_mem _ ha) (.lst gr (rm.dis _ (by simp)) hB (rs.weak fun a ha => List.mem_cons_of_mem _ ha))
  · obtain ⟨ρ, m, I, B, rs, r⟩ := h
    rw [ev_comp] at r
    exact ⟨ρ, m, I, B, rs, r⟩
theorem comp_rdT {σ : L2.St} {H : Hp} {Q : VK} (hown : ∀ i ∈ tg.slots, i ∈ own) (h : rE X W (ev Φ (.thw (.comp tg it own c e))) σ H Q) :
    tLc (rI X W (evw Φ it)) (rG X tg) (rT X Wf (evT Φ c)) (fun σ H Q => KF X.K H → rE X Wf (ev Φ e) σ H Q) own σ H Q := by
  refine comp_gen (f := fun ys m => .ok (.loc m.length) (m ++ [.lst ys])) hown (fun nx rm gr rs hD hB r => ?_) ?_
  · obtain ⟨n, rm'⟩ := rm.show gr rs hB
    refine r _ _ _ ⟨?_, fun a o e ha => nx.keep a o e ha, nx.dom⟩ rm' (.loc (by rw [← rm.len]; simp))
    obtain ⟨J, rfl, hJ⟩ := nx.ext
    refine ⟨J ++ [_], by rw [List.append_assoc], fun a ha => ?_⟩
    rcases List.mem_append.mp ha with ha | ha
    · exact hJ a ha
    · simp at ha; subst ha; exact hD
  · obtain ⟨ρ, m, I, B, rs, r⟩ := h
    have e1 : ev Φ (.thw (.comp tg it own c e)) ρ m = (evw Φ it ρ m).bind fun w m0 => if w.1.length ≤ sizeLine then (collect (stepC Φ tg own c e ρ) (keeps w.2 m0) w.1 m0).bind fun ys m => .ok (.loc m.length) (m ++ [.lst ys]) else .stuck := by
      rw [ev, ev_comp, bind_assoc]
      congr 1; funext w m0
      split
      · rw [bind_assoc]; rfl
      · rfl
    rw [e1] at r
    exact ⟨ρ, m, I, B, rs, r⟩
end
/-! ### a dict by a comprehension -/
noncomputable def stepD (Φ : FEnv) (tg : Tg) (own : List Nat) (c k v : Ex) (ρ : Rho) (x : PV) (m1 : Mu) : Res (List PV) := match bindT tg x (wipeR ρ own) with
  | some ρ' => noX ((ev Φ c ρ' m1).bind fun p m2 => (boolR p m2).bind fun b m2 => if b = true then (ev Φ k ρ' m2).bind fun y m3 => (ev Φ v ρ' m3).bind fun z m4 => .ok [.tup false [y, z]] m4 else .ok [] m2)
  | none => .stuck
theorem ev_dcomp {Φ : FEnv} {tg : Tg} {it : Wk} {own : List Nat} {c k v : Ex} {ρ : Rho} {m : Mu} : ev Φ (.dcomp tg it own c k v) ρ m = (evw Φ it ρ m).bind fun w m0 => if w.1.length ≤ sizeLine then (collect (stepD Φ tg own c k v ρ) (keeps w.2 m0) w.1 m0).bind fun ys m => match putAll (.k [], []) ys with
        | some d => .ok (.dct d.1 d.2) m
        | none => .stuck else .stuck := by
  simp only [ev]
  rfl
theorem bind_ok {α β : Type} {r : Res α} {g : α → Mu → Res β} {b : β} {m : Mu} (h : r.bind g = .ok b m) : ∃ a m1, r = .ok a m1 ∧ g a m1 = .ok b m := by
  cases r with
  | ok a m1 => exact ⟨a, m1, rfl, h⟩
  | exc _ _ _ => cases h
  | stuck => cases h
theorem stepD_ok {Φ : FEnv} {tg : Tg} {own : List Nat} {c k v : Ex} {ρ : Rho} {x : PV} {m1 m4 : Mu} {ys : List PV} (h : stepD Φ tg own c k v ρ x m1 = .ok ys m4) :
    ∃ ρ', bindT tg x (wipeR ρ own) = some ρ' ∧ ∃ b m2, evT Φ c ρ' m1 = .ok b m2 ∧ ((b = true ∧ ∃ y m3 z, ev Φ k ρ' m2 = .ok y m3 ∧ ev Φ v ρ' m3 = .ok z m4 ∧ ys = [.tup false [y, z]]) ∨ (b = false ∧ ys = [] ∧ m4 = m2)) := by
  unfold stepD at h
  split at h
  · rename_i ρ' e1
    have h := noX_ok h
    refine ⟨ρ', e1, ?_⟩
    obtain ⟨p, m2, e2, h⟩ := bind_ok h
    obtain ⟨b, m2', e3, h⟩ := bind_ok h
    refine ⟨b, m2', by unfold evT; rw [e2]; exact e3, ?_⟩
    cases b with
    | true =>
      simp only [if_true] at h
      obtain ⟨y, m3, e4, h⟩ := bind_ok h
      obtain ⟨z, m5, e5, h⟩ := bind_ok h
      simp only [Res.ok.injEq] at h
      exact .inl ⟨rfl, y, m3, z, e4, by rw [e5, h.2], h.1.symm⟩
    | false =>
      simp only [Bool.false_eq_true, if_false, Res.ok.injEq] at h
      exact .inr ⟨rfl, h.1.symm, h.2.symm⟩
  · cases h
theorem stepD_or {Φ : FEnv} {tg : Tg} {own : List Nat} {c k v : Ex} {ρ : Rho} {x : PV} {m1 : Mu} : (∃ ys m3, stepD Φ tg own c k v ρ x m1 = .ok ys m3) ∨ stepD Φ tg own c k v ρ x m1 = .stuck := by
  unfold stepD
  split
  · exact noX_or _
  · exact .inr rfl
theorem putAll_app : ∀ {ys zs : List PV} {d d' : DK × List PV}, putAll d (ys ++ zs) = some d' → ∃ d1, putAll d ys = some d1 ∧ putAll d1 zs = some d'
  | [], zs, d, d', h => ⟨d, rfl, h⟩
  | y :: ys, zs, d, d', h => by
    rw [List.cons_append] at h
    simp only [putAll, Option.bind_eq_some_iff] at h ⊢
    obtain ⟨d1, h1, h2⟩ := h
    obtain ⟨d2, h3, h4⟩ := putAll_app h2
    exact ⟨d2, ⟨d1, h1, h3⟩, h4⟩
theorem putAll_snoc {ys : List PV} {y z : PV} {d d1 d' : DK × List PV} (h1 : putAll d ys = some d1) (h : putAll d (ys ++ [.tup false [y, z]]) = some d') : d1.1.put d1.2 y z = some d' := by
  obtain ⟨d2, h2, h3⟩ := putAll_app h
  rw [h1] at h2; cases h2
  simp only [putAll, put1, Option.bind_eq_some_iff, Option.some.injEq] at h3
  obtain ⟨d3, h4, rfl⟩ := h3
  exact h4
section
variable {K : PySem.W.Frag} {I B : List Addr} {H : Hp} {m : Mu} {D : Addr} {o : HO}
/-- more is put in: what stands for it -/
theorem put_rvs {es : List (Key × V)} {xs : List PV} {y z : PV} {vz : V} {k : Key} {d : DK × List PV} (rs : RVs K B I H (es.map (·.2)) xs) (rz : RV K B I H vz z) (hk : keyK y = some k) (h : (DK.k (es.map (·.1))).put xs y z = some d) :
    d.1 = .k ((putK es k vz).map (·.1)) ∧ RVs K B I H ((putK es k vz).map (·.2)) d.2 := by
  simp only [DK.put, hk, Option.map_some, Option.some.injEq] at h
  obtain ⟨p1, p2⟩ := putK_ix k vz es
  rw [p1, p2]
  split at h
  · rename_i hc
    subst h
    rw [if_pos hc, if_pos hc]
    refine ⟨rfl, ?_⟩
    have key : ∀ {ks : List Key} {vs : List V} {ps : List PV}, RVs K B I H vs ps → RVs K B I H (List.zipWith (fun a x => if a = k then vz else x) ks vs) (List.zipWith (fun a x => if a = k then z else x) ks ps) := by
      intro ks
      induction ks with
      | nil => intro vs ps _; exact .nil
      | cons a ks ih =>
        intro vs ps r
        cases r with
        | nil => exact .nil
        | cons r rs =>
          simp only [List.zipWith_cons_cons]
          refine .cons ?_ (ih rs)
          split
          · exact rz
          · exact r
    exact key rs
  · rename_i hc
    subst h
    rw [if_neg hc, if_neg hc]
    exact ⟨rfl, rs.append (.cons rz .nil)⟩
end
section
variable {S : Stc} {Φ : FEnv} {W : WX} {X : Cx} {tg : Tg} {it : Wk} {own : List Nat} {c k v : Ex}
structure MidD (K : PySem.W.Frag) (B : List Addr) (D : Addr) (I0 : List Addr) (H0 : Hp) (m0 : Mu) (f : PV → Mu → Res (List PV)) (ok : Mu → Prop) (xs : List PV) (i : Nat) (H : Hp) (I1 : List Addr) (m1 : Mu) (ys : List PV) (es : List (Key × V)) (vs : List PV) : Prop where
  nx : Nx I0 I1 H0 H
  rm : RM K (D :: B) I1 H m1
  gr : H D = some (.dK es)
  rs : RVs K (D :: B) I1 H (es.map (·.2)) vs
  pt : putAll (.k [], []) ys = some (.k (es.map (·.1)), vs)
  eq : collect f ok xs m0 = (collect f ok (xs.drop i) m1).bind fun zs m => .ok (ys ++ zs) m
theorem putK_len (es : List (Key × V)) (k : Key) (v : V) : (putK es k v).length ≤ es.length + 1 := by
  unfold putK
  split
  · simp
  · simp
theorem dcomp_rd {σ : L2.St} {H : Hp} {Q : VK} (hown : ∀ i ∈ tg.slots, i ∈ own) (h : rE X W (ev Φ (.dcomp tg it own c k v)) σ H Q) :
    tDc (rI X W (evw Φ it)) (rG X tg) (rT X Wf (evT Φ c)) (fun σ H Q => KF X.K H → rE X Wf (ev Φ k) σ H Q) (fun σ H Q => KF X.K H → rE X Wf (ev Φ v) σ H Q) own σ H Q := by
  obtain ⟨ρ, m, I, B, rs, r⟩ := h
  rw [ev_dcomp] at r
  refine ⟨ρ, m, I, B, rs, r.seq fun w m0 _ J I0 H0 n0 rm0 hJ r => ?_⟩
  intro D hD
  split at r
  rotate_left
  · exact r.elim
  rename_i hlen
  have rs0 := rs.nx n0 rm0
  refine ⟨fun i l H => ∃ I1 m1 ys es vs, MidD X.K B D I0 H0 m0 (stepD Φ tg own c k v ρ) (keeps w.2 m0) w.1 i H I1 m1 ys es vs ∧ es.length ≤ i ∧ l + i = w.1.length, ⟨w.1.length, I0, m0, [], [], [], ⟨Nx.same I0 (upd_same_of hD), rm0.fresh hD, upd_same, .nil, rfl, ?_⟩, Nat.le_refl _, rfl⟩, ?_⟩
  · rw [List.drop_zero, bind_ok_nil]
  · rintro i l H ⟨I1, m1, ys, es, vs, md, hy, hk⟩
    have fut : Fut I0 B I1 (D :: B) H0 H := ⟨md.nx, fun a ha => by
      rcases List.mem_cons.mp ha with rfl | ha
      · exact .inr hD
      · exact .inl ha⟩
    rw [md.eq, bind_assoc] at r
    by_cases hok : keeps w.2 m0 m1
    rotate_left
    · rw [collect_no hok] at r; exact r.elim
    obtain ⟨jg, js⟩ := hJ I1 (D :: B) H m1 fut md.rm hok
    cases ei : w.1[i]? with
    | none =>
      have hi : w.1.length ≤ i := by simpa using ei
      refine .inl ⟨js i hi, ?_⟩
      rw [List.drop_eq_nil_of_le hi, collect_nil hok] at r
      simp only [ok_bind, List.append_nil] at r
      rw [md.pt] at r
      exact r _ I1 H md.nx (md.rm.weak fun a ha => List.mem_cons_of_mem _ ha) (.dct (.inl md.gr) (md.rm.dis D (by simp)) (rm0.newB hD) (.inl ⟨es, rfl, rfl, rfl⟩) (md.rs.weak fun a ha => List.mem_cons_of_mem _ ha))
    | some x =>
      obtain ⟨g1, g2⟩ := jg i x ei
      have hi : i < w.1.length := (List.getElem?_eq_some_iff.mp ei).1
      refine .inr ⟨g1, fun H' => ∃ I1 m1 ys es vs, MidD X.K B D I0 H0 m0 (stepD Φ tg own c k v ρ) (keeps w.2 m0) w.1 (i + 1) H' I1 m1 ys es vs ∧ es.length ≤ i + 1, fun H' ⟨I2, m2, ys2, es2, vs2, q1, q2⟩ => ⟨l - 1, by omega, I2, m2, ys2, es2, vs2, q1, q2, by omega⟩, fun u H2 hy2 => ?_⟩
      obtain ⟨sm, rv⟩ := g2 u H2 hy2
      have rm2 := md.rm.same sm
      have rsW := (((rs0.fut fut md.rm).nx (Nx.same I1 sm) rm2).wipe own)
      rw [drop_cons ei, collect_cons hok, bind_assoc] at r
      intro kf2
      rcases stepD_or (Φ := Φ) (tg := tg) (own := own) (c := c) (k := k) (v := v) (ρ := ρ) (x := x) (m1 := m1) with ⟨zs, m3, es'⟩ | es'
      rotate_left
      · rw [es'] at r; exact r.elim
      have heq : collect (stepD Φ tg own c k v ρ) (keeps w.2 m0) w.1 m0 = (collect (stepD Φ tg own c k v ρ) (keeps w.2 m0) (w.1.drop (i + 1)) m3).bind fun us m => .ok ((ys ++ zs) ++ us) m := by
        rw [md.eq, drop_cons ei, collect_cons hok, es']
        simp only [ok_bind, bind_assoc, List.append_assoc]
      have hput : ∃ us m5 d, collect (stepD Φ tg own c k v ρ) (keeps w.2 m0) (w.1.drop (i + 1)) m3 = .ok us m5 ∧ putAll (.k [], []) ((ys ++ zs) ++ us) = some d := by
        rw [es'] at r
        simp only [ok_bind, bind_assoc] at r
        cases hc : collect (stepD Φ tg own c k v ρ) (keeps w.2 m0) (w.1.drop (i + 1)) m3 with
        | ok us m5 =>
          rw [hc] at r
          simp only [ok_bind] at r
          split at r
          · rename_i d hd
            exact ⟨us, m5, d, rfl, by rw [List.append_assoc]; exact hd⟩
          · exact r.elim
        | exc c' p' m' =>
          exfalso
          have : ∀ (zs : List PV) (mm : Mu), collect (stepD Φ tg own c k v ρ) (keeps w.2 m0) zs mm ≠ .exc c' p' m' := by
            intro zs
            induction zs with
            | nil => intro mm; unfold collect; split <;> simp
            | cons z zs ih =>
              intro mm
              unfold collect
              split
              · rcases stepD_or (Φ := Φ) (tg := tg) (own := own) (c := c) (k := k) (v := v) (ρ := ρ) (x := z) (m1 := mm) with ⟨a, b, e⟩ | e
                · rw [e]
                  simp only [ok_bind]
                  intro h2
                  cases h3 : collect (stepD Φ tg own c k v ρ) (keeps w.2 m0) zs b with
                  | ok _ _ => rw [h3] at h2; cases h2
                  | exc _ _ _ => rw [h3] at h2; cases h2; exact ih b h3
                  | stuck => rw [h3] at h2; cases h2
                · rw [e]; simp [Res.bind]
              · simp
          exact this _ _ hc
        | stuck => rw [hc] at r; exact r.elim
      obtain ⟨us, m5, dd, hc5, hp5⟩ := hput
      obtain ⟨d1, hd1, _⟩ := putAll_app hp5
      obtain ⟨ρ', hb, b, m2, hc, hcase⟩ := stepD_ok es'
      refine ⟨_, m1, I1, D :: B, x, ρ', rsW, rv, hb, fun σ2 rs2 on => ⟨(on own hown).trans (wipe_wipe fun _ h => h), ?_⟩⟩
      refine rT_ok rs2 hc fun I3 H3 n3 rm3 => ?_
      have n03 : Nx I0 I3 H0 H3 := (md.nx.trans (Nx.same I1 sm)).trans n3
      have gr3 : H3 D = some (.dK es) := n3.keep _ _ (sm _ _ md.gr) (md.rm.dis D (by simp))
      have ra3 : RVs X.K (D :: B) I3 H3 (es.map (·.2)) vs := (md.rs.same sm md.rm).nx n3 rm2
      rcases hcase with ⟨rfl, y, m6, z, hke, hve, rfl⟩ | ⟨rfl, rfl, rfl⟩
      · rw [if_pos rfl]
        intro kf3
        refine rE_ok (rs2.nx n3 rm3) hke fun uk I4 H4 n4 rm4 rv4 => ?_
        intro kf4
        refine rE_ok ((rs2.nx n3 rm3).nx n4 rm4) hve fun uz I5 H5 n5 rm5 rv5 => ?_
        have gr4 : H4 D = some (.dK es) := n4.keep _ _ gr3 (rm3.dis D (by simp))
        have gr5 : H5 D = some (.dK es) := n5.keep _ _ gr4 (rm4.dis D (by simp))
        have ra5 := (ra3.nx n4 rm3).nx n5 rm4
        have hpt := putAll_snoc md.pt hd1
        have hkk : ∃ kk, keyK y = some kk := by
          simp only [DK.put] at hpt
          cases hq : keyK y with
          | none => rw [hq] at hpt; cases hpt
          | some kk => exact ⟨kk, rfl⟩
        obtain ⟨kk, hkk⟩ := hkk
        obtain ⟨p1, p2⟩ := put_rvs ra5 rv5 hkk hpt
        refine ⟨es, kk, keyP_kV rv4 hkk, gr5, by omega, I5, m3, ys ++ [.tup false [y, z]], putK es kk uz, d1.2, ⟨?_, rm5.hide (by simp) gr5 (by simp), upd_same, p2.hide (by simp) gr5 (by simp), ?_, heq⟩, by have := putK_len es kk uz; omega⟩
        · have n05 := (n03.trans n4).trans n5
          refine ⟨n05.ext, fun a o ea hI => ?_, fun a ha => ?_⟩
          · have hne : a ≠ D := fun e2 => by subst e2; rw [hD] at ea; cases ea
            rw [upd_ne hne]
            exact n05.keep a o ea hI
          · by_cases hne : a = D
            · subst hne; rw [upd_same] at ha; cases ha
            · rw [upd_ne hne] at ha; exact n05.dom a ha
        · rw [hd1, ← p1]
      · rw [if_neg (by simp)]
        exact ⟨I3, m3, ys ++ [], es, vs, ⟨n03, rm3, gr3, ra3, by rw [List.append_nil]; exact md.pt, heq⟩, by omega⟩
end
end Sn
namespace Sn
open PySem PySem.Spec PyProof.Rows L2 RZ
section
variable {S : Stc} {Φ : FEnv} {W : WX} {X : Cx}
theorem XOk.blk (o : XOk S Φ W X) (scope : Scope) (s : Shared) (H : Hp) (C : Addr) (cl : List (Str × Addr)) (fp : List Addr) : XOk (S.blk scope) Φ Wf (X.blk s H scope (compEnvC scope cl C X.env) fp) := by
  refine ⟨o.N, ?_, fun x hx => ?_, o.rng, o.zp, o.enm, o.nd, o.calm, o.units, o.con, o.blt, o.bty, fun f n h => ⟨(o.fns f n h).ex⟩, fun f n ks perm h => ⟨(o.kws f n ks perm h).ex⟩, ?_, fun C n h => ⟨(o.mks C n h).ex⟩, fun C m h => ⟨(o.sms C m h).ex⟩, o.flds⟩
  · show relabel scope X.env = relS scope S.sc
    rw [← o.sc]; rfl
  · simp only [Stc.blk, List.mem_filter] at hx
    exact hx.2
  · rintro u s' ⟨_, _, _, _, _, _, _, _, _, _, _, _, _, _, _, _, h⟩
    exact h.elim
theorem folded {e : Expr} {env : Env} (h : isSetE e = false) (x : Value) : foldedSetIterable e env x = pure x := by
  cases e <;> first | rfl | simp [isSetE] at h
theorem pe_kf {e : Expr} {t : TE} (h : PE X e t) : PE X e fun σ H Q => KF X.K H → t σ H Q := ⟨fun pins s σ H Q I q => h.run pins s σ H Q I (q (Inv.kfree I))⟩
theorem rE_kf {f : Rho → Mu → Res PV} {t : TE} (hk : ∀ {σ : L2.St} {H : Hp} {Q : VK}, rE X W f σ H Q → t σ H Q) {σ : L2.St} {H : Hp} {Q : VK} (h : rE X W f σ H Q) : t σ H fun v H' => KF X.K H' → Q v H' := by
  obtain ⟨ρ, m, I, B, rs, r⟩ := h
  exact hk ⟨ρ, m, I, B, rs, r.mono (fun _ _ q _ => q) fun _ _ _ q => q⟩
theorem s_trM {m : Str} {eo ea : Expr} {p1 p2 : Pos} {xo xe : Option Ex} {x : Ex} (h : trM m eo ea p1 p2 xo xe = some x) (ho : ∀ a, xo = some a → PE X eo (rE X W (ev Φ a))) (ha : ∀ a, xe = some a → PE X ea (rE X W (ev Φ a))) :
    PE X (.Call (.Attribute eo m p1) [ea] [] p2) (rE X W (ev Φ x)) := by
  unfold trM at h
  split at h
  · rename_i hc
    simp only [Bool.and_eq_true, Bool.not_eq_true'] at hc
    split at h
    · rename_i a b
      split at h
      · rename_i hm
        subst hm
        cases h
        exact s_idx hc.1.1 hc.1.2 hc.2 (ho a rfl) (ha b rfl)
      · split at h
        · rename_i hm
          subst hm
          split at h
          · cases h
            exact s_join hc.1.2 hc.2 (ha b rfl)
          · cases h
        · cases h
    · cases h
  · cases h
theorem orSeq_some {w : Option Wk} {e : Option Ex} {z : Wk} (h : orSeq w e = some z) : w = some z ∨ ∃ x, e = some x ∧ z = .seq x := by
  cases w with
  | some w => exact .inl h
  | none =>
    obtain ⟨x, hx, rfl⟩ := Option.map_eq_some_iff.mp h
    exact .inr ⟨x, hx, rfl⟩
end
theorem trA_plain {S : Stc} {e : Expr} {es : List Expr} (h : isStar e = false) : trA S (e :: es) = match trE S e, trA S es with
    | some a, some as => some (.cons false a as)
    | _, _ => none := by
  cases e <;> first | rfl | simp [isStar] at h
def isSlice : Expr → Bool
  | .Slice _ _ _ _ => true
  | _ => false
theorem trE_item {S : Stc} {v i : Expr} {p : Pos} (h : isSlice i = false) : trE S (.Subscript v i p) = if ixOk i then match trE S v, trE S i with
    | some a, some b => some (.pr .item (.cons false a (.cons false b .nil)))
    | _, _ => none else none := by
  cases i <;> first | rfl | simp [isSlice] at h
/-- as a value and as a test -/
def VT (Φ : FEnv) (W : WX) (X : Cx) (e : Expr) (x : Ex) : Prop := PE X e (rE X W (ev Φ x)) ∧ PT X e (rT X W (evT Φ x))
theorem vt {Φ : FEnv} {W : WX} {X : Cx} {e : Expr} {x : Ex} (h : PE X e (rE X W (ev Φ x))) (he : ∀ whole, isTrue e X.env whole = (do let v ← whole; standAt e.pos; holding [v] (truthy v)) := by intro _; rfl) : VT Φ W X e x := ⟨h, t_val he h⟩
theorem evT_ite {Φ : FEnv} {a b c : Ex} {ρ : Rho} {m : Mu} : evT Φ (.ite c a b) ρ m = (evT Φ c ρ m).bind fun k m => if k = true then evT Φ a ρ m else evT Φ b ρ m := by
  unfold evT
  simp only [ev, bind_assoc]
  congr 1; funext x m1
  cases e : boolR x m1 with
  | ok k m2 => cases k <;> simp [Res.bind]
  | exc c p m2 => rfl
  | stuck => rfl
theorem s_ifT {Φ : FEnv} {W : WX} {X : Cx} {ec ea eb : Expr} {c a b : Ex} {pos : Pos} (hc : PT X ec (rT X W (evT Φ c))) (ha : PT X ea (rT X W (evT Φ a))) (hb : PT X eb (rT X W (evT Φ b))) : PT X (.IfExp ec ea eb pos) (rT X W (evT Φ (.ite c a b))) := by
  refine ⟨fun pins s σ H Q I ⟨ρ, m, L, B, rs, r⟩ => ?_⟩
  rw [evT_ite] at r
  refine PyProof.Rows.isTrue_IfExp (thn (hc.run pins s σ H (fun k H1 => if k = true then rT X W (evT Φ a) σ H1 Q else rT X W (evT Φ b) σ H1 Q) I ⟨ρ, m, L, B, rs, r.seq fun k m1 _ v I1 H1 n1 rm1 rv1 r => ?_⟩) fun k s1 ⟨H1, J, q⟩ => ?_)
  · cases rv1
    cases k with
    | true => simp only [if_true] at r ⊢; exact ⟨ρ, m1, I1, B, rs.nx n1 rm1, r⟩
    | false => simp only [Bool.false_eq_true, if_false] at r ⊢; exact ⟨ρ, m1, I1, B, rs.nx n1 rm1, r⟩
  · cases k with
    | true => simp only [if_true] at q ⊢; exact ha.run pins s1 σ H1 Q J q
    | false => simp only [Bool.false_eq_true, if_false] at q ⊢; exact hb.run pins s1 σ H1 Q J q
mutual
theorem snd (S : Stc) : ∀ (e : Expr) (x : Ex), trE S e = some x → ∀ {Φ : FEnv} {W : WX} {X : Cx}, XOk S Φ W X → VT Φ W X e x
  | .Name n _, x, h, _, _, _, o => by
    simp only [trE] at h
    split at h
    · rename_i i hi
      split at h
      · rename_i hd
        cases h
        exact vt (s_var o hi hd)
      · cases h
    · split at h
      · rename_i hg
        split at h
        · rename_i p hp
          cases h
          exact vt (s_con o hg hp)
        · obtain ⟨t, ht, rfl⟩ := Option.map_eq_some_iff.mp h
          exact vt (s_bty o hg ht)
      · cases h
  | .Constant c _ _, x, h, _, _, _, o => by
    simp only [trE] at h
    obtain ⟨p, hp, rfl⟩ := Option.map_eq_some_iff.mp h
    exact vt (s_const hp)
  | .BinOp l op r _, x, h, _, _, _, o => by
    simp only [trE] at h
    split at h
    · rename_i a b h1 h2
      cases h
      split
      · rename_i hc
        obtain ⟨rfl, _⟩ := hc
        exact vt (s_addT (snd S l a h1 o).1 (snd S r b h2 o).1)
      · exact vt (s_bin (snd S l a h1 o).1 (snd S r b h2 o).1)
    · cases h
  | .UnaryOp op e _, x, h, _, _, _, o => by
    cases op with
    | USub =>
      simp only [trE] at h
      obtain ⟨a, ha, rfl⟩ := Option.map_eq_some_iff.mp h
      exact vt (s_neg (snd S e a ha o).1)
    | Not =>
      simp only [trE] at h
      obtain ⟨a, ha, rfl⟩ := Option.map_eq_some_iff.mp h
      exact ⟨s_not (snd S e a ha o).1, t_not (snd S e a ha o).2⟩
    | _ => simp [trE] at h
  | .BoolOp op es pos, x, h, _, _, _, o => by
    have z := snd_B S op es x (by simpa only [trE] using h) (pos := pos) o
    exact ⟨z.1, (z.2).pt⟩
  | .IfExp c a b _, x, h, _, _, _, o => by
    simp only [trE] at h
    split at h
    · rename_i x y z h1 h2 h3
      cases h
      exact ⟨s_ite (snd S c x h1 o).2 (snd S a y h2 o).1 (snd S b z h3 o).1, s_ifT (snd S c x h1 o).2 (snd S a y h2 o).2 (snd S b z h3 o).2⟩
    · cases h
  | .Compare a ops cs _, x, h, _, _, _, o => match ops, cs, h with
    | [op], [b], h => by
      simp only [trE] at h
      split at h
      · rename_i x y h1 h2
        split at h
        · cases h
        · rename_i hm
          cases h
          have hu : _ < cLine := Nat.lt_of_le_of_lt (Nat.add_le_add_left (by decide : 64 ≤ 66) _) o.units
          exact ⟨s_cmp hu (by simpa using hm) (snd S a x h1 o).1 (snd S b y h2 o).1, t_cmp hu (by simpa using hm) (snd S a x h1 o).1 (snd S b y h2 o).1⟩
      · cases h
    | [op, op2], [b, c], h => by
      simp only [trE] at h
      split at h
      · rename_i x y z h1 h2 h3
        split at h
        · cases h
        · rename_i hm
          cases h
          have hu : _ < cLine := Nat.lt_of_le_of_lt (Nat.add_le_add_left (by decide : 64 ≤ 66) _) o.units
          exact ⟨s_chn hu (by simpa using hm) (snd S a x h1 o).1 (snd S b y h2 o).1 (snd S c z h3 o).1, t_chn hu (by simpa using hm) (snd S a x h1 o).1 (snd S b y h2 o).1 (snd S c z h3 o).1⟩
      · cases h
    | [], _, h | [_], [], h | [_], _ :: _ :: _, h | [_, _], [], h | [_, _], [_], h | [_, _], _ :: _ :: _ :: _, h | _ :: _ :: _ :: _, _, h => by simp [trE] at h
  | .Subscript v i _, x, h, _, _, _, o => by
    have hv := snd S v
    have hi := snd S i
    cases i with
    | Slice lo up st q =>
      cases st with
      | some st =>
        cases lo with
        | some l => simp [trE, ixOk] at h
        | none =>
          cases up with
          | some u => simp [trE, ixOk] at h
          | none =>
            simp only [trE] at h
            split at h
            · rename_i hm
              obtain ⟨a, ha, rfl⟩ := Option.map_eq_some_iff.mp h
              exact vt (s_rev hm (hv a ha o).1)
            · cases h
      | none =>
        cases lo with
        | none =>
          cases up with
          | none =>
            simp only [trE] at h
            obtain ⟨a, ha, rfl⟩ := Option.map_eq_some_iff.mp h
            exact vt (s_slc0 (hv a ha o).1)
          | some u =>
            have hu := snd S u
            simp only [trE] at h
            split at h
            · rename_i a b h1 h2
              cases h
              exact vt (s_slcU (hv a h1 o).1 (hu b h2 o).1)
            · cases h
        | some l =>
          have hl := snd S l
          cases up with
          | none =>
            simp only [trE] at h
            split at h
            · rename_i a b h1 h2
              cases h
              exact vt (s_slcL (hv a h1 o).1 (hl b h2 o).1)
            · cases h
          | some u =>
            have hu := snd S u
            simp only [trE] at h
            split at h
            · rename_i a b c h1 h2 h3
              cases h
              exact vt (s_slc2 (hv a h1 o).1 (hl b h2 o).1 (hu c h3 o).1)
            · cases h
    | _ =>
      rw [trE_item rfl] at h
      split at h
      · rename_i hx
        split at h
        · rename_i a b h1 h2
          cases h
          exact vt (s_item (by have := o.units; omega) hx (hv a h1 o).1 (hi b h2 o).1)
        · cases h
      · cases h
  | .Call f es kws _, x, h, _, _, _, o => by
    have ha := snd_A S es
    cases kws with
    | cons k ks =>
      have hb := snd_Ks S (k :: ks)
      cases f with
      | Name f _ =>
        have h : trCK S f es (k :: ks) (trA S es) (trKs S (k :: ks)) = some x := by cases es <;> simpa only [trE] using h
        exact vt (s_callk o h (fun a e => ha a e o) (fun b e => hb b e o) (fun e => by subst e; rfl))
      | _ => cases es <;> simp [trE] at h
    | nil =>
      cases es with
      | nil => cases f <;> simp [trE] at h
      | cons e es =>
        cases f with
        | Name f _ =>
          simp only [trE] at h
          split at h
          · cases h
          · rename_i hst
            obtain ⟨s1, s2⟩ := not_any_star hst
            split at h
            · rename_i n hsl hg hf
              split at h
              · rename_i as has
                split at h
                · rename_i hn
                  cases h
                  exact vt (s_call o hf hg s2 s1 hn (ha as has o))
                · cases h
              · cases h
            · rename_i hsl hg hf
              split at h
              · rename_i b hb
                obtain ⟨as, has, rfl⟩ := Option.map_eq_some_iff.mp h
                exact vt (s_blt o hb hg s2 s1 (ha as has o))
              · split at h
                · rename_i hm
                  obtain ⟨as, has, rfl⟩ := Option.map_eq_some_iff.mp h
                  exact vt (s_mk o hm hg s2 s1 (ha as has o))
                · cases h
            · cases h
        | Attribute ob m p1 =>
          have hob := snd S ob
          have he := snd S e
          cases es with
          | cons _ _ => simp [trE] at h
          | nil =>
            simp only [trE] at h
            split at h
            · rename_i C hC
              split at h
              · cases h
              · rename_i hc
                simp only [Bool.or_eq_true, Bool.not_eq_true', not_or, Bool.not_eq_true, Bool.not_eq_false] at hc
                obtain ⟨a, ha, rfl⟩ := Option.map_eq_some_iff.mp h
                exact vt (s_static o hC hc.1 hc.2 (he a ha o).1)
            · exact vt (s_trM h (fun a ha => (hob a ha o).1) (fun b hb => (he b hb o).1))
        | _ => simp [trE] at h
  | .Tuple es _ _, x, h, _, _, _, o => by
    simp only [trE] at h
    obtain ⟨as, ha, rfl⟩ := Option.map_eq_some_iff.mp h
    split
    · split
      · exact vt (s_tup (snd_A S es as ha o))
      · exact vt (s_ktup (snd_A S es as ha o))
    · exact vt (s_tup (snd_A S es as ha o))
  | .List es _, x, h, _, _, _, o => by
    simp only [trE] at h
    obtain ⟨as, ha, rfl⟩ := Option.map_eq_some_iff.mp h
    split
    · exact vt (s_lstT (snd_A S es as ha o))
    · exact vt (s_lst (snd_A S es as ha o))
  | .NamedExpr _ _ _, _, h, _, _, _, _ => by simp [trE] at h
  | .Lambda _ _ _ _, _, h, _, _, _, _ => by simp [trE] at h
  | .Dict ks vs pos, x, h, _, _, _, o => match ks, vs, h with
    | [], [], h => by
      simp only [trE, Option.some.injEq] at h
      subst h
      split
      · exact vt s_dnewF
      · exact vt s_dnew
    | _ :: _, _, h | [], _ :: _, h => by simp [trE] at h
  | .Set _ _ _, _, h, _, _, _, _ => by simp [trE] at h
  | .ListComp elt gens scope pos, x, h, Φ, W, X, o => match gens, h with
    | [⟨tg, iter, ifs, as⟩], h => by
      have h1 := snd (S.blk scope) elt
      have h2 := snd S iter
      have h3 := snd_W S iter
      have h4 := snd_F (S.blk scope) ifs
      by_cases has : as = 0
      rotate_left
      · rw [trE] at h
        · cases h
        all_goals simp_all
      subst has
      simp only [trE] at h
      split at h
      · rename_i w g c e e1 e2 e3 e4
        split at h
        · rename_i hc
          cases h
          simp only [Bool.and_eq_true, Bool.not_eq_true', List.all_eq_true] at hc
          obtain ⟨⟨hc, hs⟩, hset⟩ := hc
          have hw : PI X tg iter (rI X W (evw Φ w)) := by
            rcases orSeq_some e1 with q | ⟨y, q, rfl⟩
            · exact h3 _ _ q o tg rfl
            · exact w_seq (h2 y q o).1
          have L := pe_lc (pos := pos) (own := S.own scope) (g := rG X g) (tt := rT X Wf (evT Φ c)) (te := fun σ H Q => KF X.K H → rE X Wf (ev Φ e) σ H Q) o.calm o.nd hw (blkOk_by (by rw [o.N, o.sc]; exact hc)) (fun s H C cl fp => g_any (o.blk scope s H C cl fp) e2) (fun s H C cl fp => h4 c e3 (o.blk scope s H C cl fp)) (fun s H C cl fp => pe_kf (h1 e e4 (o.blk scope s H C cl fp)).1) (fun z => folded hset z)
          split
          · exact vt (pe_imp L fun σ H Q q => rE_kf (comp_rdT (fun i hi => by simpa using hs i hi)) q)
          · exact vt (pe_imp L fun σ H Q q => rE_kf (comp_rd (fun i hi => by simpa using hs i hi)) q)
        · cases h
      · cases h
    | [], h | _ :: _ :: _, h => by simp [trE] at h
  | .SetComp _ _ _ _, _, h, _, _, _, _ => by simp [trE] at h
  | .DictComp ke ve gens scope pos, x, h, Φ, W, X, o => match gens, h with
    | [⟨tg, iter, ifs, as⟩], h => by
      have h1 := snd (S.blk scope) ke
      have h1' := snd (S.blk scope) ve
      have h2 := snd S iter
      have h3 := snd_W S iter
      have h4 := snd_F (S.blk scope) ifs
      by_cases has : as = 0
      rotate_left
      · rw [trE] at h
        · cases h
        all_goals simp_all
      subst has
      simp only [trE] at h
      split at h
      · rename_i w g c k v e1 e2 e3 e4 e5
        split at h
        · rename_i hc
          cases h
          simp only [Bool.and_eq_true, Bool.not_eq_true', List.all_eq_true] at hc
          obtain ⟨⟨hc, hs⟩, hset⟩ := hc
          have hw : PI X tg iter (rI X W (evw Φ w)) := by
            rcases orSeq_some e1 with q | ⟨y, q, rfl⟩
            · exact h3 _ _ q o tg rfl
            · exact w_seq (h2 y q o).1
          refine vt (pe_imp (pe_dc (own := S.own scope) (g := rG X g) (tt := rT X Wf (evT Φ c)) (tk := fun σ H Q => KF X.K H → rE X Wf (ev Φ k) σ H Q) (tv := fun σ H Q => KF X.K H → rE X Wf (ev Φ v) σ H Q) o.calm o.nd hw (blkOk_by (by rw [o.N, o.sc]; exact hc)) (fun s H C cl fp => g_any (o.blk scope s H C cl fp) e2) (fun s H C cl fp => h4 c e3 (o.blk scope s H C cl fp)) (fun s H C cl fp => pe_kf (h1 k e4 (o.blk scope s H C cl fp)).1) (fun s H C cl fp => pe_kf (h1' v e5 (o.blk scope s H C cl fp)).1) (fun z => folded hset z)) fun σ H Q q => ?_)
          exact rE_kf (dcomp_rd (fun i hi => by simpa using hs i hi)) q
        · cases h
      · cases h
    | [], h | _ :: _ :: _, h => by simp [trE] at h
  | .GeneratorExp _ _ _ _, _, h, _, _, _, _ => by simp [trE] at h
  | .Await _ _, _, h, _, _, _, _ => by simp [trE] at h
  | .Yield _ _, _, h, _, _, _, _ => by simp [trE] at h
  | .YieldFrom _ _, _, h, _, _, _, _ => by simp [trE] at h
  | .FormattedValue _ _ _ _, _, h, _, _, _, _ => by simp [trE] at h
  | .JoinedStr _ _, _, h, _, _, _, _ => by simp [trE] at h
  | .Attribute ob f _, x, h, _, _, _, o => by
    simp only [trE] at h
    split at h
    · cases h
    · rename_i hc
      obtain ⟨a, ha, rfl⟩ := Option.map_eq_some_iff.mp h
      exact vt (s_fld o (by simpa using hc) (snd S ob a ha o).1)
  | .Starred _ _, _, h, _, _, _, _ => by simp [trE] at h
  | .Slice _ _ _ _, _, h, _, _, _, _ => by simp [trE] at h
theorem snd_Ks (S : Stc) : ∀ (ks : List Keyword) (x : Exs), trKs S ks = some x → ∀ {Φ : FEnv} {W : WX} {X : Cx}, XOk S Φ W X → PK X ks (rA X W (evs Φ x))
  | [], x, h, _, _, _, o => by
    simp only [trKs, Option.some.injEq] at h
    subst h
    exact k_nil
  | k :: ks, x, h, _, _, _, o => by
    have h1 := snd_K S k
    have h2 := snd_Ks S ks
    simp only [trKs] at h
    split at h
    · rename_i a as e1 e2
      cases h
      cases k with
      | mk nm e p => exact k_cons (h1 a e1 o) (h2 as e2 o)
    · cases h
theorem snd_K (S : Stc) : ∀ (k : Keyword) (x : Ex), trK S k = some x → ∀ {Φ : FEnv} {W : WX} {X : Cx}, XOk S Φ W X → PE X k.value (rE X W (ev Φ x))
  | ⟨nm, e, p⟩, x, h, _, _, _, o => (snd S e x (by simpa only [trK] using h) o).1
theorem snd_F (S : Stc) : ∀ (ifs : List Expr) (x : Ex), trF S ifs = some x → ∀ {Φ : FEnv} {W : WX} {X : Cx}, XOk S Φ W X → PTs X ifs (rT X W (evT Φ x))
  | [], x, h, _, _, _, o => by
    simp only [trF, Option.some.injEq] at h
    subst h
    refine pts_imp pts_nil fun σ H Q ⟨ρ, m, I, B, rs, r⟩ => ?_
    exact r true I H (Nx.refl I H) rs.rm rfl
  | [c], x, h, _, _, _, o => by
    have z := snd S c x (by simpa only [trF] using h) o
    exact pts_one z.2
  | _ :: _ :: _, x, h, _, _, _, o => by simp [trF] at h
theorem snd_W (S : Stc) : ∀ (it : Expr) (tup : Bool) (w : Wk), trW S tup it = some w → ∀ {Φ : FEnv} {W : WX} {X : Cx}, XOk S Φ W X → ∀ tg : Expr, isTupE tg = tup → PI X tg it (rI X W (evw Φ w))
  | .Call f es kws cp, tup, w, h, Φ, W, X, o, tg, ht => match f, es, kws, h with
    | .Name f fp, [a], [], h => by
      have ha := snd S a
      simp only [trW] at h
      split at h
      · rename_i hf
        subst hf
        split at h
        · rename_i hc
          simp only [Bool.and_eq_true, Bool.not_eq_true'] at hc
          obtain ⟨x, hx, rfl⟩ := Option.map_eq_some_iff.mp h
          exact w_rng o hc.1 hc.2 (ha x hx o).1
        · cases h
      · split at h
        · rename_i hf
          subst hf
          split at h
          · rename_i hc
            simp only [Bool.and_eq_true, Bool.not_eq_true'] at hc
            obtain ⟨x, hx, rfl⟩ := Option.map_eq_some_iff.mp h
            obtain ⟨⟨c1, c2⟩, c3⟩ := hc
            subst ht
            cases tg <;> first | exact w_enm o c1 c2 (ha x hx o).1 | simp [isTupE] at c3
          · cases h
        · cases h
    | .Name f fp, [a, b], [], h => by
      have ha := snd S a
      have hb := snd S b
      simp only [trW] at h
      split at h
      · rename_i hf
        subst hf
        split at h
        · rename_i hc
          simp only [Bool.and_eq_true, Bool.not_eq_true'] at hc
          split at h
          · rename_i x y h1 h2
            cases h
            exact w_rng2 o hc.1.1 hc.1.2 hc.2 (ha x h1 o).1 (hb y h2 o).1
          · cases h
        · cases h
      · split at h
        · rename_i hf
          subst hf
          split at h
          · rename_i hc
            simp only [Bool.and_eq_true, Bool.not_eq_true'] at hc
            obtain ⟨⟨⟨c1, c2⟩, c3⟩, c4⟩ := hc
            split at h
            · rename_i x y h1 h2
              cases h
              subst ht
              cases tg <;> first | exact w_zip o c1 c2 c3 (ha x h1 o).1 (hb y h2 o).1 | simp [isTupE] at c4
            · cases h
          · cases h
        · cases h
    | .Name _ _, [], [], h | .Name _ _, _ :: _ :: _ :: _, [], h => by simp [trW] at h
    | .Name _ _, es, _ :: _, h => by
      rcases es with _ | ⟨a, _ | ⟨b, _ | ⟨c, es⟩⟩⟩ <;> simp [trW] at h
    | .Attribute _ _ _, _, _, h | .Call _ _ _ _, _, _, h | .BoolOp _ _ _, _, _, h | .NamedExpr _ _ _, _, _, h | .BinOp _ _ _ _, _, _, h | .UnaryOp _ _ _, _, _, h | .Lambda _ _ _ _, _, _, h | .IfExp _ _ _ _, _, _, h
    | .Dict _ _ _, _, _, h | .Set _ _ _, _, _, h | .ListComp _ _ _ _, _, _, h | .SetComp _ _ _ _, _, _, h | .DictComp _ _ _ _ _, _, _, h | .GeneratorExp _ _ _ _, _, _, h | .Await _ _, _, _, h | .Yield _ _, _, _, h | .YieldFrom _ _, _, _, h
    | .Compare _ _ _ _, _, _, h | .FormattedValue _ _ _ _, _, _, h | .JoinedStr _ _, _, _, h | .Constant _ _ _, _, _, h | .Subscript _ _ _, _, _, h | .Starred _ _, _, _, h | .List _ _, _, _, h | .Tuple _ _ _, _, _, h | .Slice _ _ _ _, _, _, h => by simp [trW] at h
  | .Name _ _, _, w, h, _, _, _, o, _, _ | .Constant _ _ _, _, w, h, _, _, _, o, _, _ | .BinOp _ _ _ _, _, w, h, _, _, _, o, _, _ | .UnaryOp _ _ _, _, w, h, _, _, _, o, _, _ | .BoolOp _ _ _, _, w, h, _, _, _, o, _, _
  | .IfExp _ _ _ _, _, w, h, _, _, _, o, _, _ | .Compare _ _ _ _, _, w, h, _, _, _, o, _, _ | .Subscript _ _ _, _, w, h, _, _, _, o, _, _ | .Tuple _ _ _, _, w, h, _, _, _, o, _, _ | .List _ _, _, w, h, _, _, _, o, _, _
  | .NamedExpr _ _ _, _, w, h, _, _, _, o, _, _ | .Lambda _ _ _ _, _, w, h, _, _, _, o, _, _ | .Dict _ _ _, _, w, h, _, _, _, o, _, _ | .Set _ _ _, _, w, h, _, _, _, o, _, _ | .ListComp _ _ _ _, _, w, h, _, _, _, o, _, _
  | .SetComp _ _ _ _, _, w, h, _, _, _, o, _, _ | .DictComp _ _ _ _ _, _, w, h, _, _, _, o, _, _ | .GeneratorExp _ _ _ _, _, w, h, _, _, _, o, _, _ | .Await _ _, _, w, h, _, _, _, o, _, _ | .Yield _ _, _, w, h, _, _, _, o, _, _
  | .YieldFrom _ _, _, w, h, _, _, _, o, _, _ | .FormattedValue _ _ _ _, _, w, h, _, _, _, o, _, _ | .JoinedStr _ _, _, w, h, _, _, _, o, _, _ | .Attribute _ _ _, _, w, h, _, _, _, o, _, _ | .Starred _ _, _, w, h, _, _, _, o, _, _ | .Slice _ _ _ _, _, w, h, _, _, _, o, _, _ => by simp [trW] at h
theorem snd_A (S : Stc) : ∀ (es : List Expr) (x : Exs), trA S es = some x → ∀ {Φ : FEnv} {W : WX} {X : Cx}, XOk S Φ W X → PA X es (rA X W (evs Φ x))
  | [], x, h, _, _, _, o => by
    simp only [trA, Option.some.injEq] at h
    subst h
    exact a_nil
  | e :: es, x, h, _, _, _, o => by
    have he := snd S e
    have hes := snd_A S es
    by_cases hst : isStar e = true
    · cases e with
      | Starred e' p =>
        have he' := snd S e'
        simp only [trA] at h
        split at h
        · rename_i a as h1 h2
          cases h
          exact a_star (he' a h1 o).1 (hes as h2 o)
        · cases h
      | _ => simp [isStar] at hst
    · have hst : isStar e = false := by simpa using hst
      rw [trA_plain hst] at h
      split at h
      · rename_i a as h1 h2
        cases h
        exact a_cons hst (he a h1 o).1 (hes as h2 o)
      · cases h
theorem snd_B (S : Stc) (op : BoolOp) : ∀ (es : List Expr) (x : Ex), trB S op es = some x → ∀ {Φ : FEnv} {W : WX} {X : Cx} {pos : Pos}, XOk S Φ W X → PE X (.BoolOp op es pos) (rE X W (ev Φ x)) ∧ PW X (.BoolOp op es pos) (rT X W (evT Φ x))
  | [], x, h, _, _, _, _, o => by simp [trB] at h
  | [e], x, h, _, _, _, _, o => by
    have z := snd S e x (by simpa only [trB] using h) o
    exact ⟨pe_one z.1, w_one z.2⟩
  | e :: e2 :: es, x, h, _, _, _, pos, o => by
    simp only [trB] at h
    split at h
    · rename_i a b h1 h2
      cases h
      have z := snd S e a h1 o
      have w := snd_B S op (e2 :: es) b h2 (pos := pos) o
      exact ⟨s_boolOp z.1 w.1, w_boolOp z.2 w.2⟩
    · cases h
end
end Sn
namespace Sn
open PySem PySem.Spec PyProof.Rows L2 RZ
/-! ### statements -/
mutual
inductive Stm where
  | set (tg : Tg) (e : Ex)
  | par (is : List Nat) (as : Exs)
  | exp (e : Ex)
  | app (o v : Ex)
  | sti (v o k : Ex)
  | att (cs : List Str) (o : Ex) (f : Str) (v : Ex)
  | ret (e : Ex)
  | retN
  | ite (c : Ex) (a b : Stms)
  | for_ (tg : Tg) (it : Wk) (b : Stms)
  | forN (tg : Tg) (i : Nat) (b : Stms)
  | whl (c : Ex) (b : Stms)
  | brk
  | cnt
  | skip
  | bad
inductive Stms where
  | nil
  | cons (s : Stm) (r : Stms)
end
/-- how a statement ends -/
inductive SR where
  | nx (ρ : Rho) (m : Mu)
  | rt (p : PV) (m : Mu)
  | bk (ρ : Rho) (m : Mu)
  | ct (ρ : Rho) (m : Mu)
  | xc (c : Str) (p : Option PV) (ρ : Rho) (m : Mu)
  | stuck
def SR.seq : SR → (Rho → Mu → SR) → SR
  | .nx ρ m, f => f ρ m
  | r, _ => r
/-- after an expression -/
def Res.go {α : Type} (ρ : Rho) : Res α → (α → Mu → SR) → SR
  | .ok a m, f => f a m
  | .exc c p m, _ => .xc c p ρ m
  | .stuck, _ => .stuck
open Classical in
noncomputable def forL (step : Rho → Mu → SR) (tg : Tg) (ok : Mu → Prop) : List PV → Rho → Mu → SR
  | [], ρ, m => if ok m then .nx ρ m else .stuck
  | x :: xs, ρ, m => if ok m then match bindT tg x ρ with
    | some ρ1 => match step ρ1 m with
      | .nx ρ2 m2 => forL step tg ok xs ρ2 m2
      | .ct ρ2 m2 => forL step tg ok xs ρ2 m2
      | .bk ρ2 m2 => .nx ρ2 m2
      | r => r
    | none => .stuck
    else .stuck
/-- so many turns at most -/
def whN (test : Rho → Mu → Res Bool) (step : Rho → Mu → SR) : Nat → Rho → Mu → SR
  | 0, _, _ => .stuck
  | n + 1, ρ, m => (test ρ m).go ρ fun b m1 => if b = true then match step ρ m1 with
    | .nx ρ2 m2 => whN test step n ρ2 m2
    | .ct ρ2 m2 => whN test step n ρ2 m2
    | .bk ρ2 m2 => .nx ρ2 m2
    | r => r
    else .nx ρ m1
open Classical in
noncomputable def whL (test : Rho → Mu → Res Bool) (step : Rho → Mu → SR) (ρ : Rho) (m : Mu) : SR :=
  if h : ∃ n, whN test step n ρ m ≠ .stuck then whN test step h.choose ρ m else .stuck
/-- an exception within: not told -/
def noXS : SR → SR
  | .xc _ _ _ _ => .stuck
  | r => r
/-- the list at a place -/
def lstAt (m : Mu) (l : Nat) : Option (List PV) := match m[l]? with
  | some (.lst xs) => some xs
  | _ => none
def isLo (p : PV) (m : Mu) : Bool := match p with
  | .loc l => (lstAt m l).isSome
  | _ => false
def appS (p q : PV) (m : Mu) : Option Mu := match p with
  | .loc l => match lstAt m l with
    | some xs => if xs.length < sizeLine then some (m.set l (.lst (xs ++ [q]))) else none
    | none => none
  | _ => none
def stiS (v p k : PV) (m : Mu) : Option Mu := match p with
  | .loc l => match m[l]? with
    | some (.lst xs) => match k with
      | .int i => (ixN xs.length i).map fun j => m.set l (.lst (xs.set j v))
      | _ => none
    | some (.dct ks xs) => if xs.length < sizeLine then (ks.put xs k v).map fun d => m.set l (.dct d.1 d.2) else none
    | some (.ins _ _) => none
    | none => none
  | _ => none
def putP (f : Str) (v : PV) : List (Str × PV) → List (Str × PV)
  | [] => [(f, v)]
  | (g, x) :: r => if g = f then (g, v) :: r else (g, x) :: putP f v r
def attS (cs : List Str) (f : Str) (v p : PV) (m : Mu) : Option Mu := match p with
  | .loc l => match m[l]? with
    | some (.ins C fs) => if C ∈ cs ∧ fs.length < 1000 then some (m.set l (.ins C (putP f v fs))) else none
    | _ => none
  | _ => none
mutual
noncomputable def ex (Φ : FEnv) : Stm → Rho → Mu → SR
  | .set tg e, ρ, m => (ev Φ e ρ m).go ρ fun p m => match bindT tg p ρ with
    | some ρ' => .nx ρ' m
    | none => .stuck
  | .par is as, ρ, m => (evs Φ as ρ m).go ρ fun ps m => if ps.length = is.length then .nx (setAll ρ is ps) m else .stuck
  | .exp e, ρ, m => (ev Φ e ρ m).go ρ fun _ m => .nx ρ m
  | .app o v, ρ, m => (ev Φ o ρ m).go ρ fun p m => if isLo p m = true then (ev Φ v ρ m).go ρ fun q m => match appS p q m with
    | some m => .nx ρ m
    | none => .stuck
    else .stuck
  | .sti v o k, ρ, m => (ev Φ v ρ m).go ρ fun q m => (ev Φ o ρ m).go ρ fun p m => (ev Φ k ρ m).go ρ fun i m => match stiS q p i m with
    | some m => .nx ρ m
    | none => .stuck
  | .att cs o f v, ρ, m => (ev Φ v ρ m).go ρ fun q m => (ev Φ o ρ m).go ρ fun p m => match attS cs f q p m with
    | some m => .nx ρ m
    | none => .stuck
  | .ret e, ρ, m => (ev Φ e ρ m).go ρ fun p m => .rt p m
  | .retN, _, m => .rt .non m
  | .ite c a b, ρ, m => (evT Φ c ρ m).go ρ fun k m => if k = true then exs Φ a ρ m else exs Φ b ρ m
  | .for_ tg it b, ρ, m => (evw Φ it ρ m).go ρ fun w m => forL (fun ρ m => exs Φ b ρ m) tg (keeps w.2 m) w.1 ρ m
  | .forN tg i b, ρ, m => match ρ[i]? with
    | some (some (.dct (.k ks) _)) => noXS (forL (fun ρ m => exs Φ b ρ m) tg (keeps [] m) (ks.map keyP) ρ m)
    | some (some p) => (oWd m (walkS m p)).go ρ fun w m => forL (fun ρ m => exs Φ b ρ m) tg (keeps w.2 m) w.1 ρ m
    | _ => .stuck
  | .whl c b, ρ, m => whL (evT Φ c) (fun ρ m => exs Φ b ρ m) ρ m
  | .brk, ρ, m => .bk ρ m
  | .cnt, ρ, m => .ct ρ m
  | .skip, ρ, m => .nx ρ m
  | .bad, _, _ => .stuck
noncomputable def exs (Φ : FEnv) : Stms → Rho → Mu → SR
  | .nil, ρ, m => .nx ρ m
  | .cons s r, ρ, m => (ex Φ s ρ m).seq fun ρ m => exs Φ r ρ m
end
/-- what a statement's end asks -/
def sok (X : Cx) (W : WX) (D : Ends) (B I : List Addr) (H : Hp) : SR → Prop
  | .nx ρ' m' => ∀ σ' I' H', Nx I I' H H' → RS X.K B I' H' σ' ρ' m' → D.nx σ' H'
  | .bk ρ' m' => ∀ σ' I' H', Nx I I' H H' → RS X.K B I' H' σ' ρ' m' → D.bk σ' H'
  | .ct ρ' m' => ∀ σ' I' H', Nx I I' H H' → RS X.K B I' H' σ' ρ' m' → D.ct σ' H'
  | .rt p m' => ∀ v I' H', Nx I I' H H' → RM X.K B I' H' m' → RV X.K B I' H' v p → D.rt v H'
  | .xc c p ρ' m' => ∀ cls d σ' I' H', Nx I I' H H' → RS X.K B I' H' σ' ρ' m' → RX X.mg X.K B I' H' cls d c p → W cls d σ' H'
  | .stuck => False
section
variable {X : Cx} {W : WX} {D D' : Ends} {B I I1 : List Addr} {H H1 : Hp}
theorem sok.nx {r : SR} (h : sok X W D B I H r) (n : Nx I I1 H H1) : sok X W D B I1 H1 r := by
  cases r with
  | nx ρ m => exact fun σ I' H' n' => h σ I' H' (n.trans n')
  | bk ρ m => exact fun σ I' H' n' => h σ I' H' (n.trans n')
  | ct ρ m => exact fun σ I' H' n' => h σ I' H' (n.trans n')
  | rt p m => exact fun v I' H' n' => h v I' H' (n.trans n')
  | xc c p ρ m => exact fun cls d σ I' H' n' => h cls d σ I' H' (n.trans n')
  | stuck => exact h
/-- what a text does -/
abbrev rS (X : Cx) (W : WX) (f : Rho → Mu → SR) : TS := fun D σ H => ∃ ρ m I B, RS X.K B I H σ ρ m ∧ sok X W D B I H (f ρ m)
/-- first an expression -/
theorem sok.go {α β : Type} {R : List Addr → Hp → Mu → β → α → Prop} {x : Res α} {g : α → Mu → SR} {Q : β → Hp → Prop} {σ : L2.St} {ρ : Rho} {m : Mu} (rs : RS X.K B I H σ ρ m) (h : sok X W D B I H (x.go ρ g))
    (k : ∀ r m1, x = .ok r m1 → ∀ v I1 H1, Nx I I1 H H1 → RM X.K B I1 H1 m1 → R I1 H1 m1 v r → sok X W D B I1 H1 (g r m1) → Q v H1) : rok X.mg X.K R B I H Q (fun c d H' => W c d σ H') x := by
  cases x with
  | ok r m1 => exact fun v I' H' n rm rv => k r m1 rfl v I' H' n rm rv (h.nx n)
  | exc c p m1 => exact fun cls d I' H' n rm rx => h cls d σ I' H' n (rs.nx n rm) rx
  | stuck => exact h
theorem ps_imp {st : Stmt} {t t' : TS} (h : PS X st t) (k : ∀ D σ H, t' D σ H → t D σ H) : PS X st t' := ⟨fun pins s σ H D I q => h.run pins s σ H D I (k D σ H q)⟩
theorem pss_imp {st : List Stmt} {t t' : TS} (h : PSs X st t) (k : ∀ D σ H, t' D σ H → t D σ H) : PSs X st t' := ⟨fun pins s σ H D I q => h.run pins s σ H D I (k D σ H q)⟩
theorem sok.imp {r : SR} (h : sok X W D B I H r) (k1 : ∀ σ H, D.nx σ H → D'.nx σ H) (k2 : ∀ v H, D.rt v H → D'.rt v H) (k3 : ∀ σ H, D.bk σ H → D'.bk σ H) (k4 : ∀ σ H, D.ct σ H → D'.ct σ H) : sok X W D' B I H r := by
  cases r with
  | nx ρ m => exact fun σ I' H' n r => k1 _ _ (h σ I' H' n r)
  | bk ρ m => exact fun σ I' H' n r => k3 _ _ (h σ I' H' n r)
  | ct ρ m => exact fun σ I' H' n r => k4 _ _ (h σ I' H' n r)
  | rt p m => exact fun v I' H' n r q => k2 _ _ (h v I' H' n r q)
  | xc c p ρ m => exact h
  | stuck => exact h
end
section
variable {S : Stc} {Φ : FEnv} {W : WX} {X : Cx} {pos : Pos} {ea : Expr} {e : Ex} {as : Exs} {es : List Expr}
theorem x_set {tgx : Expr} {tg : Tg} (hg : PG X tgx (rG X tg)) (ha : PE X ea (rE X W (ev Φ e))) (h1 : swapsWithSole [tgx] ea pos.line X.env = pure false) (h2 : swappedStores [tgx] ea X.env = pure none) (h3 : List.map (fun x => x.snd) (assignEach [tgx] X.env) = [assign tgx X.env]) :
    PS X (.Assign [tgx] ea pos) (rS X W (ex Φ (.set tg e))) := by
  refine ps_imp (ps_asg ha hg h1 h2 h3) fun D σ H ⟨ρ, m, I, B, rs, r⟩ => ?_
  simp only [ex] at r
  refine ⟨ρ, m, I, B, rs, sok.go rs r fun p m1 _ v I1 H1 n1 rm1 rv1 r kf => ?_⟩
  split at r
  · rename_i ρ' hb
    exact ⟨ρ, m1, I1, B, p, ρ', rs.nx n1 rm1, rv1, hb, fun σ' rs' _ => r σ' I1 H1 (Nx.refl _ _) rs'⟩
  · exact r.elim
theorem x_exp (ha : PE X ea (rE X W (ev Φ e))) (h : swapsWith ea none pos.line X.env = pure false) : PS X (.Expr ea pos) (rS X W (ex Φ (.exp e))) := by
  refine ps_imp (ps_expr ha h) fun D σ H ⟨ρ, m, I, B, rs, r⟩ => ?_
  simp only [ex] at r
  exact ⟨ρ, m, I, B, rs, sok.go rs r fun p m1 _ v I1 H1 n1 rm1 rv1 r => r σ I1 H1 (Nx.refl _ _) (rs.nx n1 rm1)⟩
theorem x_ret (ha : PE X ea (rE X W (ev Φ e))) : PS X (.Return (some ea) pos) (rS X W (ex Φ (.ret e))) := by
  refine ps_imp (ps_ret ha) fun D σ H ⟨ρ, m, I, B, rs, r⟩ => ?_
  simp only [ex] at r
  exact ⟨ρ, m, I, B, rs, sok.go rs r fun p m1 _ v I1 H1 n1 rm1 rv1 r => r v I1 H1 (Nx.refl _ _) rm1 rv1⟩
theorem x_retN : PS X (.Return none pos) (rS X W (ex Φ .retN)) := ps_imp ps_retN fun D σ H ⟨ρ, m, I, B, rs, r⟩ => r .non I H (Nx.refl _ _) rs.rm .non
theorem x_brk : PS X (.Break pos) (rS X W (ex Φ .brk)) := ps_imp ps_break fun D σ H ⟨ρ, m, I, B, rs, r⟩ => r σ I H (Nx.refl _ _) rs
theorem x_cnt : PS X (.Continue pos) (rS X W (ex Φ .cnt)) := ps_imp ps_continue fun D σ H ⟨ρ, m, I, B, rs, r⟩ => r σ I H (Nx.refl _ _) rs
theorem x_skip : PS X (.Pass pos) (rS X W (ex Φ .skip)) := ps_imp ps_pass fun D σ H ⟨ρ, m, I, B, rs, r⟩ => r σ I H (Nx.refl _ _) rs
theorem x_bad {st : Stmt} : PS X st (rS X W (ex Φ .bad)) := ps_imp ps_never fun D σ H ⟨ρ, m, I, B, rs, r⟩ => r.elim
theorem x_ite {ec : Expr} {c : Ex} {ba bb : List Stmt} {a b : Stms} (hc : PT X ec (rT X W (evT Φ c))) (ha : PSs X ba (rS X W (exs Φ a))) (hb : PSs X bb (rS X W (exs Φ b))) : PS X (.If ec ba bb pos) (rS X W (ex Φ (.ite c a b))) := by
  refine ps_imp (ps_if hc ha hb) fun D σ H ⟨ρ, m, I, B, rs, r⟩ => ?_
  simp only [ex] at r
  refine ⟨ρ, m, I, B, rs, sok.go rs r fun k m1 _ v I1 H1 n1 rm1 rv1 r => ?_⟩
  cases rv1
  cases k with
  | true => simp only [if_true] at r ⊢; exact ⟨ρ, m1, I1, B, rs.nx n1 rm1, r⟩
  | false => simp only [Bool.false_eq_true, if_false] at r ⊢; exact ⟨ρ, m1, I1, B, rs.nx n1 rm1, r⟩
theorem xs_nil : PSs X [] (rS X W (exs Φ .nil)) := pss_imp pss_nil fun D σ H ⟨ρ, m, I, B, rs, r⟩ => r σ I H (Nx.refl _ _) rs
theorem xs_cons {st : Stmt} {sts : List Stmt} {s : Stm} {r : Stms} (hs : PS X st (rS X W (ex Φ s))) (hr : PSs X sts (rS X W (exs Φ r))) : PSs X (st :: sts) (rS X W (exs Φ (.cons s r))) := by
  refine pss_imp (pss_cons hs hr) fun D σ H ⟨ρ, m, I, B, rs, h⟩ => ⟨ρ, m, I, B, rs, ?_⟩
  simp only [exs] at h
  cases e : ex Φ s ρ m with
  | nx ρ' m' =>
    rw [e] at h
    exact fun σ' I' H' n rs' => ⟨ρ', m', I', B, rs', h.nx n⟩
  | bk ρ' m' => rw [e] at h; exact h
  | ct ρ' m' => rw [e] at h; exact h
  | rt ρ' m' => rw [e] at h; exact h
  | xc c p ρ' m' => rw [e] at h; exact h
  | stuck => rw [e] at h; exact h
/-! ### for -/
theorem for_core {tg : Tg} {b : Stms} {D : Ends} {B I0 : List Addr} {H0 : Hp} {σ : L2.St} {ρ : Rho} {m0 : Mu} {J : It} {wd : Wd} (rs0 : RS X.K B I0 H0 σ ρ m0) (hJ : rJ X.K B I0 H0 m0 J wd) (r : sok X W D B I0 H0 (forL (fun ρ m => exs Φ b ρ m) tg (keeps wd.2 m0) wd.1 ρ m0)) :
    ∃ Wn : Nat → Nat → L2.St → Hp → Prop, (∃ m, Wn 0 m σ H0) ∧ ∀ i m σ H, Wn i m σ H → (J.stop i H ∧ D.nx σ H) ∨ (J.go i H ∧ ∃ N : L2.St → Hp → Prop, (∀ σ' H', N σ' H' → ∃ m', m' < m ∧ Wn (i + 1) m' σ' H') ∧ ∀ x H', J.yld i H x H' → rG X tg x σ H' fun σ2 H2 => rS X W (exs Φ b) { nx := N, rt := D.rt, bk := D.nx, ct := N } σ2 H2) := by
  refine ⟨fun i k σ H => ∃ ρ1 m1 I1, Nx I0 I1 H0 H ∧ RS X.K B I1 H σ ρ1 m1 ∧ k + i = wd.1.length ∧ sok X W D B I1 H (forL (fun ρ m => exs Φ b ρ m) tg (keeps wd.2 m0) (wd.1.drop i) ρ1 m1), ⟨wd.1.length, ρ, m0, I0, Nx.refl _ _, rs0, by omega, by rw [List.drop_zero]; exact r⟩, ?_⟩
  rintro i k σ1 H1 ⟨ρ1, m1, I1, n1, rs1, hk, r1⟩
  by_cases hok : keeps wd.2 m0 m1
  rotate_left
  · cases hd : wd.1.drop i <;> rw [hd] at r1 <;> simp only [forL, if_neg hok] at r1 <;> exact r1.elim
  obtain ⟨jg, js⟩ := hJ I1 B H1 m1 ⟨n1, fun a ha => .inl ha⟩ rs1.rm hok
  cases ei : wd.1[i]? with
  | none =>
    have hi : wd.1.length ≤ i := by simpa using ei
    rw [List.drop_eq_nil_of_le hi] at r1
    simp only [forL, if_pos hok] at r1
    exact .inl ⟨js i hi, r1 σ1 I1 H1 (Nx.refl _ _) rs1⟩
  | some x =>
    obtain ⟨g1, g2⟩ := jg i x ei
    have hi : i < wd.1.length := (List.getElem?_eq_some_iff.mp ei).1
    rw [drop_cons ei] at r1
    simp only [forL, if_pos hok] at r1
    refine .inr ⟨g1, fun σ' H' => ∃ ρ2 m2 I2, Nx I0 I2 H0 H' ∧ RS X.K B I2 H' σ' ρ2 m2 ∧ sok X W D B I2 H' (forL (fun ρ m => exs Φ b ρ m) tg (keeps wd.2 m0) (wd.1.drop (i + 1)) ρ2 m2), fun σ' H' ⟨ρ2, m2, I2, q1, q2, q3⟩ => ⟨k - 1, by omega, ρ2, m2, I2, q1, q2, by omega, q3⟩, fun v H2 hy => ?_⟩
    obtain ⟨sm, rv⟩ := g2 v H2 hy
    have rm2 := rs1.rm.same sm
    have n2 : Nx I1 I1 H1 H2 := Nx.same I1 sm
    intro kf2
    split at r1
    rotate_left
    · exact r1.elim
    rename_i ρ1' hb1
    refine ⟨ρ1, m1, I1, B, x, ρ1', rs1.nx n2 rm2, rv, hb1, fun σ2 rs2 _ => ⟨ρ1', m1, I1, B, rs2, ?_⟩⟩
    cases e : exs Φ b ρ1' m1 with
    | nx ρ' m' =>
      rw [e] at r1
      exact fun σ' I' H' n rs' => ⟨ρ', m', I', (n1.trans n2).trans n, rs', r1.nx (n2.trans n)⟩
    | ct ρ' m' =>
      rw [e] at r1
      exact fun σ' I' H' n rs' => ⟨ρ', m', I', (n1.trans n2).trans n, rs', r1.nx (n2.trans n)⟩
    | bk ρ' m' =>
      rw [e] at r1
      exact fun σ' I' H' n rs' => r1 σ' I' H' (n2.trans n) rs'
    | rt p m' => rw [e] at r1; exact r1.nx n2
    | xc c p ρ' m' => rw [e] at r1; exact r1.nx n2
    | stuck => rw [e] at r1; exact r1.elim
theorem x_for {tgx iter : Expr} {tg : Tg} {w : Wk} {body : List Stmt} {b : Stms} (hp : PassesOwn (model X.prog X.w) X.A X.env X.xe) (hc : X.calm = true) (hi : PI X tgx iter (rI X W (evw Φ w))) (hg : PG X tgx (rG X tg)) (hb : PSs X body (rS X W (exs Φ b)))
    (hf : ∀ x : Value, foldedSetIterable iter X.env x = pure x) : PS X (.For tgx iter body [] pos) (rS X W (ex Φ (.for_ tg w b))) := by
  refine ps_imp (ps_for hp hc hi hg hb hf) fun D σ H ⟨ρ, m, I, B, rs, r⟩ => ?_
  simp only [ex] at r
  refine ⟨ρ, m, I, B, rs, sok.go rs r fun wd m0 _ J I0 H0 n0 rm0 hJ r => ?_⟩
  exact for_core (rs.nx n0 rm0) hJ r
/-! ### while -/
theorem whN_go {test : Rho → Mu → Res Bool} {step : Rho → Mu → SR} {n : Nat} {ρ : Rho} {m : Mu} : whN test step (n + 1) ρ m = (test ρ m).go ρ fun b m1 => if b = true then match step ρ m1 with
    | .nx ρ2 m2 => whN test step n ρ2 m2
    | .ct ρ2 m2 => whN test step n ρ2 m2
    | .bk ρ2 m2 => .nx ρ2 m2
    | r => r
    else .nx ρ m1 := rfl
theorem x_whl {ec : Expr} {c : Ex} {body : List Stmt} {b : Stms} (hp : PassesOwn (model X.prog X.w) X.A X.env X.xe) (hc : PT X ec (rT X W (evT Φ c))) (hb : PSs X body (rS X W (exs Φ b))) : PS X (.While ec body [] pos) (rS X W (ex Φ (.whl c b))) := by
  refine ps_imp (ps_while hp hc hb) fun D σ H ⟨ρ, m, I, B, rs, r⟩ => ?_
  simp only [ex] at r
  unfold whL at r
  split at r
  rotate_left
  · exact r.elim
  rename_i hex
  generalize hex.choose = N at r
  refine ⟨fun k σ H => ∃ ρ1 m1 I1, RS X.K B I1 H σ ρ1 m1 ∧ sok X W D B I1 H (whN (evT Φ c) (fun ρ m => exs Φ b ρ m) k ρ1 m1), ⟨N, ρ, m, I, rs, r⟩, ?_⟩
  rintro k σ1 H1 ⟨ρ1, m1, I1, rs1, r1⟩
  cases k with
  | zero => exact r1.elim
  | succ k =>
    rw [whN_go] at r1
    refine ⟨ρ1, m1, I1, B, rs1, sok.go rs1 r1 fun t m2 _ v I2 H2 n2 rm2 rv2 r2 => ?_⟩
    cases rv2
    have rs2 := rs1.nx n2 rm2
    cases t with
    | false =>
      simp only [Bool.false_eq_true, if_false] at r2 ⊢
      exact r2 σ1 I2 H2 (Nx.refl _ _) rs2
    | true =>
      simp only [if_true] at r2 ⊢
      refine ⟨fun σ' H' => ∃ ρ2 m2 I2, RS X.K B I2 H' σ' ρ2 m2 ∧ sok X W D B I2 H' (whN (evT Φ c) (fun ρ m => exs Φ b ρ m) k ρ2 m2), fun σ' H' ⟨ρ2, m2, I2, q1, q2⟩ => ⟨k, by omega, ρ2, m2, I2, q1, q2⟩, ρ1, m2, I2, B, rs2, ?_⟩
      cases e : exs Φ b ρ1 m2 with
      | nx ρ' m' => rw [e] at r2; exact fun σ' I' H' n rs' => ⟨ρ', m', I', rs', r2.nx n⟩
      | ct ρ' m' => rw [e] at r2; exact fun σ' I' H' n rs' => ⟨ρ', m', I', rs', r2.nx n⟩
      | bk ρ' m' => rw [e] at r2; exact fun σ' I' H' n rs' => r2 σ' I' H' n rs'
      | rt p m' => rw [e] at r2; exact r2
      | xc c p ρ' m' => rw [e] at r2; exact r2
      | stuck => rw [e] at r2; exact r2.elim
end
end Sn
namespace Sn
open PySem PySem.Spec PyProof.Rows L2 RZ
/-! ### things that change -/
section
variable {K : PySem.W.Frag} {I B : List Addr} {H : Hp} {m : Mu}
theorem Nx.write {a : Addr} {o : HO} (ha : a ∈ I) (h : H a ≠ none) : Nx I I H (upd H a o) := ⟨⟨[], by simp, by simp⟩, fun b q e hb => by
  have hne : b ≠ a := fun e2 => hb (e2 ▸ ha)
  rw [upd_ne hne]; exact e, fun b hb => by
  by_cases hne : b = a
  · subst hne; rw [upd_same] at hb; cases hb
  · rw [upd_ne hne] at hb; exact hb⟩
theorem RM.writeO (h : RM K B I H m) {l : Nat} {a : Addr} (hl : I[l]? = some a) {o : HO} {mo : MO} (hm : MOk K B I (upd H a o) a mo) : RM K B I (upd H a o) (m.set l mo) := by
  have ha : a ∈ I := List.mem_of_getElem? hl
  have n : Nx I I H (upd H a o) := Nx.write ha (h.tr ha)
  refine ⟨by simp [h.len], h.nod, fun b hb hn => h.trB b hb (n.dom b hn), h.dis, fun k b o' e1 e2 => ?_⟩
  by_cases hk : l = k
  · subst hk
    rw [hl] at e1; cases e1
    rw [List.getElem?_set] at e2
    simp only [if_true] at e2
    split at e2
    · cases e2
      exact hm
    · cases e2
  · rw [List.getElem?_set_ne hk] at e2
    have hne : b ≠ a := fun e4 => by
      subst e4
      obtain ⟨l1, p1⟩ := (List.getElem?_eq_some_iff.mp hl)
      obtain ⟨l2, p2⟩ := (List.getElem?_eq_some_iff.mp e1)
      exact hk ((List.getElem_inj h.nod).mp (p1.trans p2.symm))
    exact (h.at_ k b o' e1 e2).to (fun o e3 => by rw [upd_ne hne]; exact e3) fun _ _ r => r.nx n h
theorem RM.write (h : RM K B I H m) {l : Nat} {a : Addr} (hl : I[l]? = some a) {vs : List V} {xs : List PV} (rs : RVs K B I H vs xs) : Nx I I H (upd H a (.lst vs)) ∧ RM K B I (upd H a (.lst vs)) (m.set l (.lst xs)) :=
  have ha : a ∈ I := List.mem_of_getElem? hl
  have n : Nx I I H (upd H a (.lst vs)) := Nx.write ha (h.tr ha)
  ⟨n, h.writeO hl ⟨vs, upd_same, rs.nx n h⟩⟩
/-- put into a dict that changes -/
theorem put_of {a : Addr} {o : HO} {vs : List V} {ks : DK} {xs : List PV} {y vz : V} {p z : PV} {d : DK × List PV} (ho : H a = some o) (hk : DKs o ks vs) (rs : RVs K B I H vs xs) (rp : RV K B I H y p) (rz : RV K B I H vz z) (hz : xs.length < sizeLine) (h : ks.put xs p z = some d) :
    ∃ o' vs', DPut H a y vz (upd H a o') ∧ DKs o' d.1 vs' ∧ RVs K B I H vs' d.2 := by
  have key : ∀ {κ : Type} [DecidableEq κ] {k : κ} {ks : List κ} {vs : List V} {ps : List PV}, RVs K B I H vs ps → RVs K B I H (List.zipWith (fun a x => if a = k then vz else x) ks vs) (List.zipWith (fun a x => if a = k then z else x) ks ps) := by
    intro κ _ k ks
    induction ks with
    | nil => intro vs ps _; exact .nil
    | cons a ks ih =>
      intro vs ps r
      cases r with
      | nil => exact .nil
      | cons r rs =>
        simp only [List.zipWith_cons_cons]
        refine .cons ?_ (ih rs)
        split
        · exact rz
        · exact r
  have hl := rs.length
  rcases hk with ⟨es, rfl, rfl, rfl⟩ | ⟨es, rfl, rfl, rfl⟩
  · simp only [DK.put, Option.map_eq_some_iff] at h
    obtain ⟨k, hk, h⟩ := h
    obtain ⟨p1, p2⟩ := putK_ix k vz es
    rw [List.length_map] at hl
    refine ⟨.dK (putK es k vz), _, .inl ⟨es, k, ho, keyP_kV rp hk, by omega, rfl⟩, .inl ⟨_, rfl, ?_, rfl⟩, ?_⟩
    · rw [p1]; split at h <;> (rename_i hc; subst h; simp only [hc, if_true, if_false]; try rfl)
    · rw [p2]
      split at h
      · rename_i hc; subst h; rw [if_pos hc]; exact key rs
      · rename_i hc; subst h; rw [if_neg hc]; exact rs.append (.cons rz .nil)
  · simp only [DK.put, Option.map_eq_some_iff] at h
    obtain ⟨k, hk, h⟩ := h
    obtain ⟨p1, p2⟩ := putK_ix k vz es
    rw [List.length_map] at hl
    obtain ⟨b, hb, hb2⟩ := keyT_tup rp hk
    refine ⟨.dT (putK es k vz), _, .inr ⟨es, k, b, ho, hb, hb2, by omega, rfl⟩, .inr ⟨_, rfl, ?_, rfl⟩, ?_⟩
    · rw [p1]; split at h <;> (rename_i hc; subst h; simp only [hc, if_true, if_false]; try rfl)
    · rw [p2]
      split at h
      · rename_i hc; subst h; rw [if_pos hc]; exact key rs
      · rename_i hc; subst h; rw [if_neg hc]; exact rs.append (.cons rz .nil)
theorem lstAt_some {l : Nat} {xs : List PV} (h : lstAt m l = some xs) : m[l]? = some (.lst xs) := by
  unfold lstAt at h
  split at h
  · rename_i q; cases h; exact q
  · cases h
theorem appS_some {p q : PV} {m m' : Mu} (h : appS p q m = some m') : ∃ l xs, p = .loc l ∧ m[l]? = some (.lst xs) ∧ xs.length < sizeLine ∧ m' = m.set l (.lst (xs ++ [q])) := by
  unfold appS at h
  split at h
  · rename_i l
    split at h
    · rename_i xs hx
      split at h
      · rename_i hs
        cases h
        exact ⟨l, xs, rfl, lstAt_some hx, hs, rfl⟩
      · cases h
    · cases h
  · cases h
theorem stiS_some {v p k : PV} {m m' : Mu} (h : stiS v p k m = some m') : (∃ l i xs j, p = .loc l ∧ k = .int i ∧ m[l]? = some (.lst xs) ∧ ixN xs.length i = some j ∧ m' = m.set l (.lst (xs.set j v))) ∨
    ∃ l ks xs d, p = .loc l ∧ m[l]? = some (.dct ks xs) ∧ xs.length < sizeLine ∧ ks.put xs k v = some d ∧ m' = m.set l (.dct d.1 d.2) := by
  unfold stiS at h
  split at h
  · rename_i l
    split at h
    · rename_i xs hx
      split at h
      · rename_i i
        obtain ⟨j, hj, rfl⟩ := Option.map_eq_some_iff.mp h
        exact .inl ⟨l, i, xs, j, rfl, rfl, hx, hj, rfl⟩
      · cases h
    · rename_i ks xs hx
      split at h
      · rename_i hz
        obtain ⟨d, hd, rfl⟩ := Option.map_eq_some_iff.mp h
        exact .inr ⟨l, ks, xs, d, rfl, hx, hz, hd, rfl⟩
      · cases h
    · cases h
    · cases h
  · cases h
theorem PSet.or {X : Cx} {t t' : TSet} (h : PSet X t) (h' : PSet X t') : PSet X fun o i v H Q => t o i v H Q ∨ t' o i v H Q :=
  fun pins s σ H o i v ov iv u Q I ro ri rv q => q.elim (h pins s σ H o i v ov iv u Q I ro ri rv) (h' pins s σ H o i v ov iv u Q I ro ri rv)
end
section
variable {S : Stc} {Φ : FEnv} {W : WX} {X : Cx} {pos : Pos} {eo ev_ ek : Expr} {o v k : Ex}
theorem x_app {p1 p2 : Pos} (hc : isCall0 eo = false) (hs : isStar ev_ = false) (hl : (p1.endLine == p2.line) = true) (ho : PE X eo (rE X W (ev Φ o))) (hv : PE X ev_ (rE X W (ev Φ v))) : PS X (.Expr (.Call (.Attribute eo "append" p1) [ev_] [] p2) pos) (rS X W (ex Φ (.app o v))) := by
  refine ps_imp (ps_expr (pe_bm PySem.F.plainAttrs_list PySem.F.slot_list_append PySem.F.type_list_append mt_append ho (a_cons (as := .nil) hs hv a_nil) (attrBase hc) ?_ hl (starEach_plain hs) rfl) rfl) fun D σ H ⟨ρ, m, I, B, rs, r⟩ => ?_
  · rw [starEach_plain hs]; rfl
  simp only [ex] at r
  refine ⟨ρ, m, I, B, rs, sok.go rs r fun p m1 _ x I1 H1 n1 rm1 rv1 r => ?_⟩
  have rs1 := rs.nx n1 rm1
  have key : ∀ q m2, ev Φ v ρ m1 = .ok q m2 → ∀ u I2 H2, Nx I1 I2 H1 H2 → RM X.K B I2 H2 m2 → RV X.K B I2 H2 u q → sok X W D B I2 H2 (match appS p q m2 with
    | some m => .nx ρ m
    | none => .stuck) → rAppend x [u] H2 fun _ H' => D.nx σ H' := by
    intro q m2 e2 u I2 H2 n2 rm2 rv2 r
    split at r
    rotate_left
    · exact r.elim
    rename_i m3 hm
    obtain ⟨l, xs, rfl, hl, hz, rfl⟩ := appS_some hm
    cases rv1 with
    | loc el =>
      rename_i a
      have el2 := n2.get el
      obtain ⟨vs, hv, rvs⟩ := rm2.at_ l a _ el2 hl
      obtain ⟨n3, rm3⟩ := rm2.write el2 (rvs.append (.cons rv2 .nil))
      exact ⟨a, vs, u, rfl, rfl, hv, by rw [rvs.length]; exact hz, r σ I2 _ n3 ((rs1.nx n2 rm2).nx n3 rm3)⟩
  split at r
  rotate_left
  · exact r.elim
  rename_i hlo
  have hty : tyV X.K "list" x H1 := by
    unfold isLo at hlo
    split at hlo
    · obtain ⟨xs, hx⟩ := Option.isSome_iff_exists.mp hlo
      cases rv1 with
      | loc el =>
        obtain ⟨vs, hv, _⟩ := rm1.at_ _ _ _ el (lstAt_some hx)
        exact .inl ⟨rfl, vs, .inl (.inl hv)⟩
    · cases hlo
  refine ⟨hty, ρ, m1, I1, B, rs1, ?_⟩
  rw [evs_one]
  cases e : ev Φ v ρ m1 with
  | stuck => rw [e] at r; exact r.elim
  | exc c q m2 =>
    rw [e] at r
    exact fun cls d I' H' n rm rx => r cls d σ I' H' n (rs1.nx n rm) rx
  | ok q m2 =>
    rw [e] at r
    intro us I2 H2 n2 rm2 rvs2
    cases rvs2 with
    | cons rv2 t =>
      cases t
      exact key q m2 e _ I2 H2 n2 rm2 rv2 (r.nx n2)
def keyOk : Expr → Bool
  | .Slice _ _ _ _ => false
  | .Starred _ _ => false
  | _ => true
theorem x_sti {p1 : Pos} (hu : X.A.units + 1 < cLine) (hi : keyOk ek = true) (hv : PE X ev_ (rE X W (ev Φ v))) (ho : PE X eo (rE X W (ev Φ o))) (hk : PE X ek (rE X W (ev Φ k))) : PS X (.Assign [.Subscript eo ek p1] ev_ pos) (rS X W (ex Φ (.sti v o k))) := by
  refine ps_imp (ps_asg hv (pg_sub ho hk (PSet.or set_list (set_dict hu)) (fun z => by cases ek <;> first | rfl | simp [keyOk] at hi)) (by cases ev_ <;> rfl) rfl rfl) fun D σ H ⟨ρ, m, I, B, rs, r⟩ => ?_
  simp only [ex] at r
  refine ⟨ρ, m, I, B, rs, sok.go rs r fun q m1 _ x I1 H1 n1 rm1 rv1 r => ?_⟩
  have rs1 := rs.nx n1 rm1
  refine ⟨ρ, m1, I1, B, rs1, sok.go rs1 r fun p m2 _ y I2 H2 n2 rm2 rv2 r => ?_⟩
  have rs2 := rs1.nx n2 rm2
  refine ⟨ρ, m2, I2, B, rs2, sok.go rs2 r fun i m3 _ z I3 H3 n3 rm3 rv3 r => ?_⟩
  have rs3 := rs2.nx n3 rm3
  split at r
  rotate_left
  · exact r.elim
  rename_i m4 hm
  have rvx := (rv1.nx n2 rm1).nx n3 rm2
  rcases stiS_some hm with ⟨l, i, xs, j, rfl, rfl, hl, hj, rfl⟩ | ⟨l, ks, xs, d, rfl, hl, hz, hd, rfl⟩
  · cases rv2 with
    | loc el =>
      cases rv3
      have el2 := n3.get el
      obtain ⟨vs, hvs, rvs⟩ := rm3.at_ l _ _ el2 hl
      obtain ⟨n4, rm4⟩ := rm3.write el2 (rvs.set rvx j)
      exact .inl ⟨_, vs, i, j, rfl, rfl, hvs, by rw [rvs.length]; exact hj, r σ I3 _ n4 (rs3.nx n4 rm4)⟩
  · cases rv2 with
    | loc el =>
      have el2 := n3.get el
      obtain ⟨ho, vs, hvs, hdk, rvs⟩ := rm3.at_ l _ _ el2 hl
      obtain ⟨o', vs', hput, hdk', rvs'⟩ := put_of hvs hdk rvs rv3 rvx hz hd
      have ha := List.mem_of_getElem? el2
      have n4 := Nx.write (o := o') ha (rm3.tr ha)
      have rm4 := rm3.writeO el2 (o := o') (mo := .dct d.1 d.2) ⟨o', vs', upd_same, hdk', rvs'.nx n4 rm3⟩
      exact .inr ⟨_, _, rfl, hput, r σ I3 _ n4 (rs3.nx n4 rm4)⟩
theorem attS_some {cs : List Str} {f : Str} {v p : PV} {m m' : Mu} (h : attS cs f v p m = some m') : ∃ l C fs, p = .loc l ∧ m[l]? = some (.ins C fs) ∧ C ∈ cs ∧ fs.length < 1000 ∧ m' = m.set l (.ins C (putP f v fs)) := by
  unfold attS at h
  split at h
  · rename_i l
    split at h
    · rename_i C fs hm
      split at h
      · rename_i hc
        cases h
        exact ⟨l, C, fs, rfl, hm, hc.1, hc.2, rfl⟩
      · cases h
    · cases h
  · cases h
theorem putF_rvs {K : PySem.W.Frag} {B I : List Addr} {H : Hp} {f : Str} {y : V} {q : PV} (r : RV K B I H y q) : ∀ {ws : List (Str × V)} {fs : List (Str × PV)}, ws.map (·.1) = fs.map (·.1) → RVs K B I H (ws.map (·.2)) (fs.map (·.2)) → (putF f y ws).map (·.1) = (putP f q fs).map (·.1) ∧ RVs K B I H ((putF f y ws).map (·.2)) ((putP f q fs).map (·.2))
  | [], [], _, _ => ⟨rfl, .cons r .nil⟩
  | [], _ :: _, h, _ => by cases h
  | _ :: _, [], h, _ => by cases h
  | (n, v) :: ws, (n', q') :: fs, hn, rr => by
    simp only [List.map_cons, List.cons.injEq] at hn
    obtain ⟨rfl, hn⟩ := hn
    cases rr with
    | cons r1 rs =>
      unfold putF putP
      split
      · simp only [List.map_cons, hn, true_and]
        exact .cons r rs
      · obtain ⟨h1, h2⟩ := putF_rvs r hn rs
        simp only [List.map_cons]
        exact ⟨by rw [h1], .cons r1 h2⟩
theorem x_att {f : Str} {p1 : Pos} (ok : XOk S Φ W X) (hs : swapsWith ev_ (some (.Attribute eo f p1)) pos.line X.env = pure false) (hv : PE X ev_ (rE X W (ev Φ v))) (ho : PE X eo (rE X W (ev Φ o))) : PS X (.Assign [.Attribute eo f p1] ev_ pos) (rS X W (ex Φ (.att (S.clsOf f) o f v))) := by
  refine ps_imp (ps_fld ho hv hs) fun D σ H ⟨ρ, m, I, B, rs, r⟩ => ?_
  simp only [ex] at r
  refine ⟨ρ, m, I, B, rs, sok.go rs r fun q m1 _ x I1 H1 n1 rm1 rv1 r => ?_⟩
  have rs1 := rs.nx n1 rm1
  refine ⟨ρ, m1, I1, B, rs1, sok.go rs1 r fun p m2 _ y I2 H2 n2 rm2 rv2 r => ?_⟩
  have rs2 := rs1.nx n2 rm2
  split at r
  rotate_left
  · exact r.elim
  rename_i m4 hm
  have rvx := rv1.nx n2 rm1
  obtain ⟨l, C, fs, rfl, hl, hcs, hlen, rfl⟩ := attS_some hm
  cases rv2 with
  | loc el =>
    obtain ⟨Ca, dx, ws, hn, hoc, hH, hnm, rvs⟩ := rm2.at_ l _ _ el hl
    obtain ⟨p1, p2⟩ := putF_rvs (f := f) rvx hnm rvs
    have ha := List.mem_of_getElem? el
    have n4 := Nx.write (o := .ins Ca dx (putF f x ws)) ha (rm2.tr ha)
    have rm4 := rm2.writeO el (o := .ins Ca dx (putF f x ws)) (mo := .ins C (putP f q fs)) ⟨Ca, dx, _, hn, hoc, upd_same, p1, p2.nx n4 rm2⟩
    have hlw : ws.length < 1000 := by
      have := congrArg List.length hnm
      simp at this
      omega
    exact ⟨_, Ca, dx, ws, rfl, hH, hoc.cl, ok.flds C f (clsOf_mem hcs) Ca hn, hlw, r σ I2 _ n4 (rs2.nx n4 rm4)⟩
end
/-! ### for over a dict: under a lock -/
section
variable {K : PySem.W.Frag} {I B : List Addr} {H : Hp} {m : Mu} {a : Addr} {o2 : HO}
/-- another reading of the same dict -/
structure Swp (H : Hp) (a : Addr) (o2 : HO) : Prop where
  some : H a ≠ none
  tup : ∀ g vs, ¬ TupR H a g vs
  lst : ∀ vs, ¬ Rd H a (.lst vs)
  dct : ∀ o ks vs, DKs o ks vs → DRd H a o → DRd (upd H a o2) a o
mutual
theorem RV.swap (w : Swp H a o2) : ∀ {v : V} {p : PV}, RV K B I H v p → RV K B I (upd H a o2) v p
  | _, _, .non => .non
  | _, _, .bl b => .bl b
  | _, _, .int i => .int i
  | _, _, .str x => .str x
  | _, _, .ty x => .ty x
  | _, _, .tup (a := b) h hs => .tup (by
      have hne : b ≠ a := fun e => by subst e; exact w.tup _ _ h
      exact h.imp fun q e => by rw [upd_ne hne]; exact e) (RVs.swap w hs)
  | _, _, .dct (a := b) (o := o) h ha hb hd hs => .dct (by
      by_cases hne : b = a
      · subst hne; exact w.dct o _ _ hd h
      · unfold DRd at h ⊢
        rw [upd_ne hne]; exact h) ha hb hd (RVs.swap w hs)
  | _, _, .lst (a := b) h ha hb hs => .lst (by
      have hne : b ≠ a := fun e => by subst e; exact w.lst _ (.inl h)
      rw [upd_ne hne]; exact h) ha hb (RVs.swap w hs)
  | _, _, .scr (a := b) h hs => .scr (h.imp (fun ⟨h, ha, hb⟩ => ⟨by
      have hne : b ≠ a := fun e => by subst e; exact w.lst _ h
      unfold Rd
      rw [upd_ne hne]; exact h, ha, hb⟩) id) (RVs.swap w hs)
  | _, _, .loc h => .loc h
theorem RVs.swap (w : Swp H a o2) : ∀ {vs : List V} {ps : List PV}, RVs K B I H vs ps → RVs K B I (upd H a o2) vs ps
  | _, _, .nil => .nil
  | _, _, .cons h hs => .cons (RV.swap w h) (RVs.swap w hs)
end
theorem RM.swap (w : Swp H a o2) (ha : a ∉ I) (h : RM K B I H m) : RM K B I (upd H a o2) m := by
  refine ⟨h.len, h.nod, fun b hb => ?_, h.dis, fun l b q e1 e2 => ?_⟩
  · by_cases hne : b = a
    · subst hne; rw [upd_same]; simp
    · rw [upd_ne hne]; exact h.trB b hb
  · have hne : b ≠ a := fun e => by subst e; exact ha (List.mem_of_getElem? e1)
    exact (h.at_ l b q e1 e2).to (fun o e3 => by rw [upd_ne hne]; exact e3) fun _ _ r => r.swap w
theorem RS.swap {σ : L2.St} {ρ : Rho} (w : Swp H a o2) (ha : a ∉ I) (h : RS K B I H σ ρ m) : RS K B I (upd H a o2) σ ρ m :=
  ⟨h.rm.swap w ha, h.len, fun i p e => let ⟨v, e1, e2⟩ := h.at_ i p e; ⟨v, e1, e2.swap w⟩⟩
theorem swp_lock {es : List (Key × V)} {od : Obj} (h : H a = some (.dK es)) : Swp H a (.frz od (.dK es)) := by
  refine ⟨by rw [h]; simp, fun g vs => TupR.ne h (by simp), fun vs h2 => ?_, fun o ks vs hk ho => ?_⟩
  · rcases h2 with h2 | ⟨_, h2⟩ <;> rw [h] at h2 <;> cases h2
  · rcases ho with ho | ⟨_, _, _, ho⟩
    · rw [h] at ho; cases ho
      exact .inr ⟨es, od, rfl, upd_same⟩
    · rw [h] at ho; cases ho
theorem swp_free {es : List (Key × V)} {od : Obj} (h : H a = some (.frz od (.dK es))) : Swp H a (.dK es) := by
  refine ⟨by rw [h]; simp, fun g vs => TupR.ne h (by simp), fun vs h2 => ?_, fun o ks vs hk ho => ?_⟩
  · rcases h2 with h2 | ⟨_, h2⟩ <;> rw [h] at h2 <;> cases h2
  · rcases ho with ho | ⟨_, _, e, ho⟩
    · rw [h] at ho
      cases ho
      rcases hk with ⟨_, e, _⟩ | ⟨_, e, _⟩ <;> cases e
    · rw [h] at ho; cases ho
      exact .inl upd_same
end
section
variable {S : Stc} {Φ : FEnv} {W : WX} {X : Cx} {pos : Pos} {D : Ends} {B I : List Addr} {H : Hp} {a : Addr} {es : List (Key × V)} {od : Obj}
/-- what is wanted under the lock -/
def lockD (D : Ends) (a : Addr) (u : HO) (od : Obj) : Ends :=
  { nx := fun σ' H' => H' a = some (HO.frz od u) ∧ D.nx σ' (upd H' a u), rt := fun v H' => H' a = some (HO.frz od u) ∧ D.rt v (upd H' a u),
    bk := fun σ' H' => H' a = some (HO.frz od u) ∧ D.bk σ' (upd H' a u), ct := fun σ' H' => H' a = some (HO.frz od u) ∧ D.ct σ' (upd H' a u) }
theorem lock_nx {I' : List Addr} {H' : Hp} (h : H a = some (.dK es)) (ha : a ∉ I) (n : Nx I I' (upd H a (.frz od (.dK es))) H') : H' a = some (.frz od (.dK es)) ∧ a ∉ I' ∧ Nx I I' H (upd H' a (.dK es)) := by
  have e : H' a = some (.frz od (.dK es)) := n.keep _ _ upd_same ha
  refine ⟨e, n.fresh ha (by rw [upd_same]; simp), ?_, fun b o eb hb => ?_, fun b hb => ?_⟩
  · obtain ⟨J, rfl, hJ⟩ := n.ext
    refine ⟨J, rfl, fun b hb => ?_⟩
    have := hJ b hb
    by_cases hne : b = a
    · subst hne; rw [upd_same] at this; cases this
    · rw [upd_ne hne] at this; exact this
  · by_cases hne : b = a
    · subst hne
      rw [h] at eb; cases eb
      exact upd_same
    · rw [upd_ne hne]
      exact n.keep _ _ (by rw [upd_ne hne]; exact eb) hb
  · by_cases hne : b = a
    · subst hne; rw [upd_same] at hb; cases hb
    · rw [upd_ne hne] at hb
      have := n.dom b hb
      rw [upd_ne hne] at this; exact this
theorem sok_lock {r : SR} (h : H a = some (.dK es)) (ha : a ∉ I) (q : sok X W D B I H (noXS r)) : sok X W (lockD D a (.dK es) od) B I (upd H a (.frz od (.dK es))) r := by
  cases r with
  | nx ρ m =>
    intro σ' I' H' n rs
    obtain ⟨e1, e2, e3⟩ := lock_nx h ha n
    exact ⟨e1, q σ' I' _ e3 (rs.swap (swp_free e1) e2)⟩
  | bk ρ m =>
    intro σ' I' H' n rs
    obtain ⟨e1, e2, e3⟩ := lock_nx h ha n
    exact ⟨e1, q σ' I' _ e3 (rs.swap (swp_free e1) e2)⟩
  | ct ρ m =>
    intro σ' I' H' n rs
    obtain ⟨e1, e2, e3⟩ := lock_nx h ha n
    exact ⟨e1, q σ' I' _ e3 (rs.swap (swp_free e1) e2)⟩
  | rt p m =>
    intro v I' H' n rm rv
    obtain ⟨e1, e2, e3⟩ := lock_nx h ha n
    exact ⟨e1, q v I' _ e3 (rm.swap (swp_free e1) e2) (rv.swap (swp_free e1))⟩
  | xc c p ρ m => exact q.elim
  | stuck => exact q.elim
theorem rJ_keys {K : PySem.W.Frag} {m : Mu} (h : H a = some (.frz od (.dK es))) (ha : a ∉ I) : rJ K B I H m (Itk a od es) ((es.map (·.1)).map keyP, []) := by
  intro I' B' H' m' n rm' _
  have e := n.nx.keep _ _ h ha
  refine ⟨fun i x hx => ?_, fun i hi => ⟨e, by simpa using hi⟩⟩
  rw [List.map_map, List.getElem?_map, Option.map_eq_some_iff] at hx
  obtain ⟨kv, hkv, rfl⟩ := hx
  refine ⟨⟨e, (List.getElem?_eq_some_iff.mp hkv).1⟩, fun u H2 ⟨e2, k, v, e3, e4⟩ => ?_⟩
  subst e2 e4
  rw [hkv] at e3; cases e3
  refine ⟨Same.refl _, ?_⟩
  cases k <;> constructor
theorem noXS_stuck {r : SR} : sok X W D B I H (noXS r) → sok X W D B I H r := by
  cases r <;> first | exact id | exact fun h => h.elim
theorem ps_or {st : Stmt} {t t' : TS} (h : PS X st t) (h' : PS X st t') : PS X st fun D σ H => t D σ H ∨ t' D σ H :=
  ⟨fun pins s σ H D I q => q.elim (h.run pins s σ H D I) (h'.run pins s σ H D I)⟩
theorem walk_py {K : PySem.W.Frag} {m : Mu} {v : V} {p : PV} {w : Wd} (rm : RM K B I H m) (rv : RV K B I H v p) (hw : walkS m p = some w) :
    (∃ b, v = .ref b ∧ (∃ xs, SqL K H b xs) ∧ rJ K B I H m (Itl K b) w) ∨ (∃ b, v = .ref b ∧ (∃ xs, SqT K H b xs) ∧ rJ K B I H m (Itt K b) w) ∨ ∃ x, v = .str x ∧ rJ K B I H m (Its x) w := by
  cases rv with
  | lst h hi hb q => cases hw; exact .inl ⟨_, rfl, ⟨_, .inl (.inl h)⟩, rJ_list rm (fun _ _ n => .inl (.inl (n.keep _ _ h hi))) q⟩
  | scr h q => cases hw; exact .inl ⟨_, rfl, ⟨_, h.sq⟩, rJ_list rm (fun _ _ n => h.elim (fun h => .inl (n.rd h.1 h.2.1)) fun h => h.1 _) q⟩
  | tup h q => cases hw; exact .inr (.inl ⟨_, rfl, ⟨_, h.sq⟩, rJ_tup rm h q⟩)
  | str z => cases hw; exact .inr (.inr ⟨_, rfl, rJ_str⟩)
  | loc e =>
    obtain ⟨a, vs, e1, e2, e3⟩ := walk_L rm (.loc e) hw rfl
    exact .inl ⟨a, e1, ⟨_, e2⟩, e3⟩
  | _ => cases hw
theorem x_forN {tgx : Expr} {tg : Tg} {x : Str} {i : Nat} {p0 : Pos} {body : List Stmt} {b : Stms} (o : XOk S Φ W X) (hx : S.slot x = some i) (hd : (x != "__debug__" && x != "__classdict__") = true) (hp : PassesOwn (model X.prog X.w) X.A X.env X.xe) (hg : PG X tgx (rG X tg)) (hb : PSs X body (rS X W (exs Φ b))) :
    PS X (.For tgx (.Name x p0) body [] pos) (rS X W (ex Φ (.forN tg i b))) := by
  obtain ⟨h1, h2⟩ := slot_some hx
  simp only [Bool.and_eq_true, bne_iff_ne, ne_eq] at hd
  have hv := pe_var (X := X) (pos := p0) (i := i) (by rw [o.N]; exact h1) (by unfold Vis; rw [o.sc]; exact h2) (by simpa using hd.1) (by simpa using hd.2)
  have A1 := ps_for (pos := pos) hp o.calm (pi_any hv) hg hb (fun _ => rfl)
  have A2 := ps_for (pos := pos) hp o.calm (pi_keys hv) hg hb (fun _ => rfl)
  refine ps_imp (ps_or A1 (ps_or A2 (ps_lock A2))) fun D σ H ⟨ρ, m, I, B, rs, r⟩ => ?_
  simp only [ex] at r
  split at r
  · rename_i ks xs e
    obtain ⟨v, e1, rv⟩ := rs.at_ i _ e
    cases rv with
    | dct hdr ha hbb hk rvs =>
      rcases hk with ⟨es, rfl, hks, rfl⟩ | ⟨es, _, hks, _⟩
      · have hks : ks = es.map (·.1) := by cases hks; rfl
        subst hks
        rcases hdr with hu | ⟨_, od, _, hl⟩
        · refine .inr (.inr ⟨_, .dK es, hu, trivial, fun od => ⟨_, e1, _, od, rfl, .inl ⟨es, upd_same, ?_⟩⟩⟩)
          have rsL := rs.swap (swp_lock (od := od) hu) ha
          exact for_core (D := lockD D _ (.dK es) od) rsL (rJ_keys upd_same ha) (sok_lock hu ha r)
        · refine .inr (.inl ⟨_, e1, _, od, rfl, .inl ⟨es, hl, ?_⟩⟩)
          exact for_core rs (rJ_keys hl ha) (noXS_stuck r)
      · cases hks
  · rename_i p hnd e
    obtain ⟨v, e1, rv⟩ := rs.at_ i _ e
    refine .inl ⟨v, e1, fun kf => ?_⟩
    cases hw : walkS m p with
    | none => rw [hw] at r; exact r.elim
    | some w =>
      rw [hw] at r
      simp only [oWd, Res.go] at r
      rcases walk_py rs.rm rv hw with ⟨b', e2, e3, hJ⟩ | ⟨b', e2, e3, hJ⟩ | ⟨z, e2, hJ⟩
      · exact .inl ⟨b', e2, e3, for_core rs hJ r⟩
      · exact .inr (.inl ⟨b', e2, e3, for_core rs hJ r⟩)
      · exact .inr (.inr ⟨z, e2, for_core rs hJ r⟩)
  · exact r.elim
end
end Sn
namespace Sn
open PySem PySem.Spec PyProof.Rows L2 RZ
/-! ### from the program's statements -/
def swNames (S : Stc) (ts : List Expr) : List Str := ts.filterMap (fun x => match x with
  | .Name id pos => if (S.names.lookup id == some .local && pos.line == ((ts.head?).map (fun x => x.pos.line)).getD 0) = true then some id else none
  | _ => none)
/-- how the stores of a tuple go: swapped, or by way of a tuple -/
def parK (S : Stc) (ts vs : List Expr) : Option (Option (List Str)) :=
  if (!(ts.length == 2 || ts.length == 3) || vs.length != ts.length) = true then some none
  else if vs.any isStar = true then some none
  else if ((swNames S ts).length != ts.length || (swNames S ts).eraseDups.length != (swNames S ts).length) = true then some none
  else if vs.all (foldedForSure 8) = true then some none
  else if vs.all (constantsAlone 8) = true then none
  else some (some (swNames S ts))
theorem isStar_eq : (fun x : Expr => match x with
    | .Starred _ _ => true
    | _ => false) = isStar := by
  funext x; cases x <;> rfl
theorem parK_ok {S : Stc} {X : Cx} (h : X.env.scope = S.sc) (hk : S.sc.kind = .function) {ts vs : List Expr} {k k2 : Nat} {p p2 : Pos} {o : Option (List Str)} (r : parK S ts vs = some o) : swappedStores [.Tuple ts k p] (.Tuple vs k2 p2) X.env = pure o := by
  have hb : X.env.blockKind = .function := by unfold Env.blockKind; rw [h, hk]; rfl
  have e1 : (List.filterMap (fun x => match x with
      | .Name id pos => if (X.env.kindOf id == some .local && pos.line == ((ts.head?).map (fun x => x.pos.line)).getD 0) = true then some id else none
      | _ => none) ts) = swNames S ts := by
    unfold swNames Env.kindOf
    rw [h]
  unfold parK at r
  unfold swappedStores
  simp only [hb]
  have e2 : (vs.any fun x => match x with
      | .Starred _ _ => true
      | _ => false) = vs.any isStar := by rw [isStar_eq]
  erw [e1, e2]
  simp only [bne_self_eq_false, Bool.or_false]
  split at r
  · rename_i c; cases r; rw [if_pos c]
  · rename_i c; rw [if_neg c]
    split at r
    · rename_i c; cases r; rw [if_pos c]
    · rename_i c; rw [if_neg c]
      split at r
      · rename_i c; cases r; rw [if_pos c]
      · rename_i c; rw [if_neg c]
        split at r
        · rename_i c; cases r; rw [if_pos c]
        · rename_i c; rw [if_neg c]
          split at r
          · cases r
          · rename_i c; cases r; rw [if_neg c]
def isComp : Expr → Bool
  | .ListComp _ _ _ _ => true
  | .SetComp _ _ _ _ => true
  | .DictComp _ _ _ _ _ => true
  | _ => false
def isTup : Expr → Bool
  | .Tuple _ _ _ => true
  | _ => false
def oSet : Option Tg → Option Ex → Stm
  | some g, some x => .set g x
  | _, _ => .bad
/-- x = [e for ..] -/
def lcOk (S : Stc) (y : Str) (py : Pos) (e : Expr) : Bool := match e with
  | .ListComp _ _ scope pos => (S.names.lookup y == some .local && !S.thw.contains pos && py.line == pos.line && !(scope.names.any fun x => x.1 == y && (x.2 == .local || x.2 == .cell))) || S.names.lookup y == some .cell
  | _ => false
/-- a key: a tuple written there stands as it is -/
def trKey (S : Stc) : Expr → Option Ex
  | .Tuple es _ _ => (trA S es).map (.pr .ktup)
  | k => trE S k
def trAsg (S : Stc) (t e : Expr) : Stm := match t with
  | .Name y py => if isComp e = true then (if lcOk S y py e = true then oSet (trG S t) (trE S e) else .bad) else oSet (trG S t) (trE S e)
  | .Tuple ts _ _ => match e with
    | .Tuple vs _ _ => match parK S ts vs with
      | some none => oSet (trG S t) (trE S e)
      | some (some _) => match ts, vs with
        | [.Name x _, .Name y _], [a, b] => match S.names.lookup x, S.names.lookup y, S.N.idxOf? x, S.N.idxOf? y, trA S [a, b] with
          | some .local, some .local, some i, some j, some as => if i ≠ j ∧ parK S ts vs = some (some [x, y]) then .par [i, j] as else .bad
          | _, _, _, _, _ => .bad
        | [.Name x _, .Name y _, .Name z _], [a, b, c] => match S.names.lookup x, S.names.lookup y, S.names.lookup z, S.N.idxOf? x, S.N.idxOf? y, S.N.idxOf? z, trA S [a, b, c] with
          | some .local, some .local, some .local, some i, some j, some k, some as => if i ≠ j ∧ i ≠ k ∧ j ≠ k ∧ parK S ts vs = some (some [x, y, z]) then .par [i, j, k] as else .bad
          | _, _, _, _, _, _, _ => .bad
        | _, _ => .bad
      | none => .bad
    | _ => if isComp e = true then .bad else oSet (trG S t) (trE S e)
  | .Subscript o k _ => if keyOk k = true then match trE S e, trE S o, trKey S k with
    | some v, some o, some k => .sti v o k
    | _, _, _ => .bad
    else .bad
  | .Attribute o f _ => if isComp e = true then .bad else match trE S e, trE S o with
    | some v, some o => .att (S.clsOf f) o f v
    | _, _ => .bad
  | _ => .bad
def trX (S : Stc) : Expr → Stm
  | .Constant (.str _) _ _ => .skip
  | .Call (.Attribute o m p1) [v] [] p2 => if m = "append" then (if !isCall0 o && !isStar v && p1.endLine == p2.line then match trE S o, trE S v with
      | some o, some v => .app o v
      | _, _ => .bad
      else .bad)
    else match trE S (.Call (.Attribute o m p1) [v] [] p2) with
      | some x => .exp x
      | none => .bad
  | e => if isComp e then .bad else match trE S e with
    | some x => .exp x
    | none => .bad
def nmS (S : Stc) : Expr → Option Nat
  | .Name x _ => if (x != "__debug__" && x != "__classdict__") = true then S.slot x else none
  | _ => none
mutual
def trS (S : Stc) : Stmt → Stm
  | .Return none _ => .retN
  | .Return (some e) _ => match trE S e with
    | some x => .ret x
    | none => .bad
  | .Expr e _ => trX S e
  | .Assign [t] e _ => trAsg S t e
  | .If c a b _ => match trE S c with
    | some x => .ite x (trSs S a) (trSs S b)
    | none => .bad
  | .For tg it b [] _ => match trG S tg, nmS S it, orSeq (trW S (isTupE tg) it) (trE S it) with
    | some g, some i, _ => .forN g i (trSs S b)
    | some g, none, some w => if isSetE it then .bad else .for_ g w (trSs S b)
    | _, _, _ => .bad
  | .While c b [] _ => match trE S c with
    | some x => .whl x (trSs S b)
    | none => .bad
  | .Break _ => .brk
  | .Continue _ => .cnt
  | .Pass _ => .skip
  | _ => .bad
def trSs (S : Stc) : List Stmt → Stms
  | [] => .nil
  | s :: r => .cons (trS S s) (trSs S r)
end
section
variable {S : Stc} {Φ : FEnv} {W : WX} {X : Cx} {pos : Pos}
structure XS (S : Stc) (Φ : FEnv) (W : WX) (X : Cx) : Prop extends XOk S Φ W X where
  kind : S.sc.kind = .function
  own : PassesOwn (model X.prog X.w) X.A X.env X.xe
theorem s_key {k : Expr} {x : Ex} (o : XOk S Φ W X) (h : trKey S k = some x) : PE X k (rE X W (ev Φ x)) := by
  unfold trKey at h
  split at h
  · obtain ⟨as, ha, rfl⟩ := Option.map_eq_some_iff.mp h
    exact s_ktup (snd_A S _ as ha o)
  · exact (snd S _ x h o).1
theorem x_oSet {t e : Expr} (o : XOk S Φ W X) (h1 : swapsWithSole [t] e pos.line X.env = pure false) (h2 : swappedStores [t] e X.env = pure none) (h3 : List.map (fun x => x.snd) (assignEach [t] X.env) = [assign t X.env]) :
    PS X (.Assign [t] e pos) (rS X W (ex Φ (oSet (trG S t) (trE S e)))) := by
  cases hg : trG S t with
  | none => exact x_bad
  | some g =>
    cases hx : trE S e with
    | none => exact x_bad
    | some x => exact x_set (g_any o hg) (snd S e x hx o).1 h1 h2 h3
theorem idx_get {x : Str} {j : Nat} (e : S.N.idxOf? x = some j) : S.N[j]? = some x := by
  unfold List.idxOf? at e
  obtain ⟨hlt, hb, _⟩ := List.findIdx?_eq_some_iff_getElem.mp e
  rw [List.getElem?_eq_getElem hlt]
  simpa using hb
theorem x_par2 {x y : Str} {px py pt pt2 : Pos} {kt k2 : Nat} {a b : Expr} {i j : Nat} {as : Exs} (o : XOk S Φ W X) (hx : S.names.lookup x = some .local) (hy : S.names.lookup y = some .local) (hi : S.N.idxOf? x = some i) (hj : S.N.idxOf? y = some j) (hij : i ≠ j)
    (ha : trA S [a, b] = some as) (hs : swappedStores [.Tuple [.Name x px, .Name y py] kt pt] (.Tuple [a, b] k2 pt2) X.env = pure (some [x, y])) :
    PS X (.Assign [.Tuple [.Name x px, .Name y py] kt pt] (.Tuple [a, b] k2 pt2) pos) (rS X W (ex Φ (.par [i, j] as))) := by
  refine ps_imp (ps_par (ta := rA X W (evs Φ as)) o.calm o.nd (by rw [o.N]; exact idx_get hi) (by rw [o.N]; exact idx_get hj) hij (by rw [o.sc]; exact hx) (by rw [o.sc]; exact hy) (snd_A S _ as ha o) hs rfl) fun D σ H ⟨ρ, m, I, B, rs, r⟩ => ?_
  simp only [ex] at r
  refine ⟨ρ, m, I, B, rs, sok.go rs r fun ps m1 _ vs I1 H1 n1 rm1 rv1 r => ?_⟩
  split at r
  rotate_left
  · exact r.elim
  rename_i hl
  match ps, rv1 with
  | [p, q], .cons r1 (.cons r2 .nil) => exact ⟨_, _, rfl, r _ I1 H1 (Nx.refl _ _) (((rs.nx n1 rm1).set r1).set r2)⟩
theorem x_par3 {x y z : Str} {px py pz pt pt2 : Pos} {kt k2 : Nat} {a b c : Expr} {i j k : Nat} {as : Exs} (o : XOk S Φ W X) (hx : S.names.lookup x = some .local) (hy : S.names.lookup y = some .local) (hz : S.names.lookup z = some .local) (hi : S.N.idxOf? x = some i) (hj : S.N.idxOf? y = some j) (hk : S.N.idxOf? z = some k) (hij : i ≠ j) (hik : i ≠ k) (hjk : j ≠ k)
    (ha : trA S [a, b, c] = some as) (hs : swappedStores [.Tuple [.Name x px, .Name y py, .Name z pz] kt pt] (.Tuple [a, b, c] k2 pt2) X.env = pure (some [x, y, z])) :
    PS X (.Assign [.Tuple [.Name x px, .Name y py, .Name z pz] kt pt] (.Tuple [a, b, c] k2 pt2) pos) (rS X W (ex Φ (.par [i, j, k] as))) := by
  refine ps_imp (ps_par3 (ta := rA X W (evs Φ as)) o.calm o.nd (by rw [o.N]; exact idx_get hi) (by rw [o.N]; exact idx_get hj) (by rw [o.N]; exact idx_get hk) hij hik hjk (by rw [o.sc]; exact hx) (by rw [o.sc]; exact hy) (by rw [o.sc]; exact hz) (snd_A S _ as ha o) hs rfl) fun D σ H ⟨ρ, m, I, B, rs, r⟩ => ?_
  simp only [ex] at r
  refine ⟨ρ, m, I, B, rs, sok.go rs r fun ps m1 _ vs I1 H1 n1 rm1 rv1 r => ?_⟩
  split at r
  rotate_left
  · exact r.elim
  rename_i hl
  match ps, rv1 with
  | [p, q, t], .cons r1 (.cons r2 (.cons r3 .nil)) => exact ⟨_, _, _, rfl, r _ I1 H1 (Nx.refl _ _) ((((rs.nx n1 rm1).set r1).set r2).set r3)⟩
theorem no_comp {e : Expr} {t : Option Expr} {l : Nat} {env : Env} (h : isComp e = false) : swapsWith e t l env = pure false := by
  cases e <;> first | rfl | simp [isComp] at h
theorem no_compS {e t : Expr} {l : Nat} {env : Env} (h : isComp e = false) : swapsWithSole [t] e l env = pure false := no_comp h
theorem tup_compS {e : Expr} {ts : List Expr} {k : Nat} {p : Pos} {l : Nat} {env : Env} : swapsWithSole [.Tuple ts k p] e l env = pure false := by
  cases e <;> rfl
/-- x = a comprehension -/
theorem x_setLc {y : Str} {py : Pos} {e : Expr} (o : XS S Φ W X) (hc : isComp e = true) (h : lcOk S y py e = true) : PS X (.Assign [.Name y py] e pos) (rS X W (ex Φ (oSet (trG S (.Name y py)) (trE S e)))) := by
  cases hg : trG S (.Name y py) with
  | none => exact x_bad
  | some g =>
  cases hx : trE S e with
  | none => exact x_bad
  | some x =>
  cases e with
  | ListComp elt gens scope lpos =>
    simp only [lcOk, Bool.or_eq_true, Bool.and_eq_true, beq_iff_eq, Bool.not_eq_true'] at h
    rcases h with ⟨⟨⟨h1, h0⟩, h2⟩, h3⟩ | h1
    · have hk : X.env.scope.kind = .function := by rw [o.sc]; exact o.kind
      have hl : X.env.scope.names.lookup y = some .local := by rw [o.sc]; exact h1
      have hgi := hg
      simp only [trG] at hgi
      obtain ⟨i, hi, rfl⟩ := Option.map_eq_some_iff.mp hgi
      obtain ⟨n1, n2, n3⟩ := put_some o.toXOk hi
      have hsw : ∀ l, swapsWith (.ListComp elt gens scope lpos) (some (.Name y py)) l X.env = pure true := fun l => sw_true hk hl (by simpa using h2) h3
      match gens, hx with
      | [⟨tg, iter, ifs, as⟩], hx =>
        by_cases has : as = 0
        rotate_left
        · rw [trE] at hx
          · cases hx
          all_goals simp_all
        subst has
        simp only [trE] at hx
        split at hx
        · rename_i w g c e e1 e2 e3 e4
          split at hx
          · rename_i hc
            rw [if_neg (by rw [h0]; simp)] at hx
            cases hx
            simp only [Bool.and_eq_true, Bool.not_eq_true', List.all_eq_true] at hc
            obtain ⟨⟨hc, hs⟩, hset⟩ := hc
            have hw : PI X tg iter (rI X W (evw Φ w)) := by
              rcases orSeq_some e1 with q | ⟨y, q, rfl⟩
              · exact snd_W S iter _ _ q o.toXOk tg rfl
              · exact w_seq (snd S iter y q o.toXOk).1
            refine ps_imp (ps_setLc (i := i) (own := S.own scope) (g := rG X g) (tt := rT X Wf (evT Φ c)) (te := fun σ H Q => KF X.K H → rE X Wf (ev Φ e) σ H Q) o.calm o.nd n1 hl (hsw _) hw (blkOk_by (by rw [o.N, o.sc]; exact hc)) (fun s H C cl fp => g_any (o.toXOk.blk scope s H C cl fp) e2) (fun s H C cl fp => snd_F (S.blk scope) ifs c e3 (o.toXOk.blk scope s H C cl fp)) (fun s H C cl fp => pe_kf (snd (S.blk scope) elt e e4 (o.toXOk.blk scope s H C cl fp)).1) (fun z => folded hset z)) fun D σ H ⟨ρ, m, I, B, rs, r⟩ => ?_
            simp only [oSet] at r
            rw [ex] at r
            refine comp_rd (fun i hi => by simpa using hs i hi) ⟨ρ, m, I, B, rs, sok.go rs r fun p m1 _ v I1 H1 n1 rm1 rv1 r => ?_⟩
            simp only [bindT] at r
            exact r _ I1 H1 (Nx.refl _ _) ((rs.nx n1 rm1).set rv1)
          · cases hx
        · cases hx
      | [], hx | _ :: _ :: _, hx => simp [trE] at hx
    · refine x_set (g_any o.toXOk hg) (snd S _ x hx o.toXOk).1 ?_ rfl rfl
      have key : swapsWith (.ListComp elt gens scope lpos) (some (.Name y py)) pos.line X.env = pure false := by
        unfold swapsWith Env.kindOf
        rw [o.sc]
        have h2 : (List.lookup y S.sc.names == some NameKind.local) = false := by
          have h3 : S.sc.names.lookup y = some .cell := h1
          rw [h3]; rfl
        simp only [h2, Bool.and_false, Bool.false_and]
      exact key
  | _ => simp [lcOk] at h
end
end Sn
namespace Sn
open PySem PySem.Spec PyProof.Rows L2 RZ
section
variable {S : Stc} {Φ : FEnv} {W : WX} {X : Cx} {pos : Pos}
theorem sw_none {t e : Expr} {env : Env} (h : isTup t = false ∨ isTup e = false) (ht : ∀ ts p, t ≠ .List ts p) : swappedStores [t] e env = pure none := by
  rcases h with h | h
  · cases t <;> first | rfl | (simp [isTup] at h; done) | exact absurd rfl (ht _ _)
  · cases t <;> first | rfl | exact absurd rfl (ht _ _) | (cases e <;> first | rfl | (simp [isTup] at h; done))
theorem x_asg (o : XS S Φ W X) (t e : Expr) : PS X (.Assign [t] e pos) (rS X W (ex Φ (trAsg S t e))) := by
  cases t with
  | Name y py =>
    simp only [trAsg]
    split
    · rename_i hc
      split
      · rename_i hl
        exact x_setLc o hc hl
      · exact x_bad
    · rename_i hc
      exact x_oSet o.toXOk (no_compS (by simpa using hc)) (sw_none (.inl rfl) (by simp)) rfl
  | Tuple ts kt pt =>
    cases e with
    | Tuple vs k2 pt2 =>
      simp only [trAsg]
      cases hk : parK S ts vs with
      | none => exact x_bad
      | some r =>
        have hs : ∀ {k k2 : Nat} {p p2 : Pos}, swappedStores [.Tuple ts k p] (.Tuple vs k2 p2) X.env = pure r := parK_ok o.sc o.kind hk
        cases r with
        | none => exact x_oSet o.toXOk (no_compS rfl) hs rfl
        | some l =>
          simp only
          split
          · rename_i x px y py a b
            split
            · rename_i i j as h1 h2 h3 h4 h5
              split
              · rename_i hc
                have hl : l = [x, y] := by simpa using hc.2
                subst hl
                exact x_par2 o.toXOk h1 h2 h3 h4 hc.1 h5 hs
              · exact x_bad
            · exact x_bad
          · rename_i x px y py z pz a b c
            split
            · rename_i i j k as h1 h2 h3 h4 h5 h6 h7
              split
              · rename_i hc
                have hl : l = [x, y, z] := by simpa using hc.2.2.2
                subst hl
                exact x_par3 o.toXOk h1 h2 h3 h4 h5 h6 hc.1 hc.2.1 hc.2.2.1 h7 hs
              · exact x_bad
            · exact x_bad
          · exact x_bad
    | _ =>
      simp only [trAsg]
      split
      · exact x_bad
      · rename_i hc
        exact x_oSet o.toXOk (no_compS (by simpa using hc)) (sw_none (.inr rfl) (by simp)) rfl
  | Subscript ob k p1 =>
    simp only [trAsg]
    split
    · rename_i hi
      split
      · rename_i v o' k' h1 h2 h3
        exact x_sti (by have := o.units; omega) hi (snd S _ _ h1 o.toXOk).1 (snd S _ _ h2 o.toXOk).1 (s_key o.toXOk h3)
      · exact x_bad
    · exact x_bad
  | Attribute ob f p1 =>
    simp only [trAsg]
    split
    · exact x_bad
    · rename_i hc
      split
      · rename_i v o' h1 h2
        exact x_att o.toXOk (no_comp (by simpa using hc)) (snd S _ _ h1 o.toXOk).1 (snd S _ _ h2 o.toXOk).1
      · exact x_bad
  | _ => exact x_bad
theorem x_expO {e : Expr} (o : XOk S Φ W X) (h : swapsWith e none pos.line X.env = pure false) : PS X (.Expr e pos) (rS X W (ex Φ (match trE S e with
    | some x => .exp x
    | none => .bad))) := by
  cases hx : trE S e with
  | none => exact x_bad
  | some x => exact x_exp (snd S e x hx o).1 h
theorem x_trX (o : XS S Φ W X) (e : Expr) : PS X (.Expr e pos) (rS X W (ex Φ (trX S e))) := by
  unfold trX
  split
  · exact ps_imp ps_doc fun D σ H ⟨ρ, m, I, B, rs, r⟩ => r σ I H (Nx.refl _ _) rs
  · rename_i ob m p1 v p2
    split
    · rename_i hm
      subst hm
      split
      · rename_i hc
        simp only [Bool.and_eq_true, Bool.not_eq_true'] at hc
        split
        · rename_i x y h1 h2
          exact x_app hc.1.1 hc.1.2 hc.2 (snd S _ _ h1 o.toXOk).1 (snd S _ _ h2 o.toXOk).1
        · exact x_bad
      · exact x_bad
    · exact x_expO o.toXOk rfl
  · split
    · exact x_bad
    · rename_i hc
      exact x_expO o.toXOk (no_comp (by simpa using hc))
mutual
theorem x_snd (S : Stc) : ∀ (st : Stmt) {Φ : FEnv} {W : WX} {X : Cx}, XS S Φ W X → PS X st (rS X W (ex Φ (trS S st)))
  | .Return none _, _, _, _, o => x_retN
  | .Return (some e) _, _, _, _, o => by
    simp only [trS]
    split
    · rename_i x hx
      exact x_ret (snd S e x hx o.toXOk).1
    · exact x_bad
  | .Expr e _, _, _, _, o => x_trX o e
  | .Assign ts e _, _, _, _, o => match ts with
    | [t] => x_asg o t e
    | [] => x_bad
    | _ :: _ :: _ => x_bad
  | .If c a b _, _, _, _, o => by
    have ha := @xs_snd S a
    have hb := @xs_snd S b
    simp only [trS]
    split
    · rename_i x hx
      exact x_ite (snd S c x hx o.toXOk).2 (ha o) (hb o)
    · exact x_bad
  | .For tg it b els _, Φ, W, X, o => by
    have hb := @xs_snd S b
    cases els with
    | cons _ _ => exact x_bad
    | nil =>
      simp only [trS]
      split
      · rename_i g i hg hn
        cases it with
        | Name x p0 =>
          simp only [nmS] at hn
          split at hn
          · rename_i hd
            exact x_forN o.toXOk hn hd o.own (g_any o.toXOk hg) (hb o)
          · cases hn
        | _ => simp [nmS] at hn
      · rename_i g w hg hn hw
        split
        · exact x_bad
        · rename_i hset
          have hi : PI X tg it (rI X W (evw Φ w)) := by
            rcases orSeq_some hw with q | ⟨y, q, rfl⟩
            · exact snd_W S it _ _ q o.toXOk tg rfl
            · exact w_seq (snd S it y q o.toXOk).1
          exact x_for o.own o.calm hi (g_any o.toXOk hg) (hb o) fun z => folded (by simpa using hset) z
      · exact x_bad
  | .While c b els _, _, _, _, o => by
    have hb := @xs_snd S b
    cases els with
    | cons _ _ => exact x_bad
    | nil =>
      simp only [trS]
      split
      · rename_i x hx
        exact x_whl o.own (snd S c x hx o.toXOk).2 (hb o)
      · exact x_bad
  | .Break _, _, _, _, o => x_brk
  | .Continue _, _, _, _, o => x_cnt
  | .Pass _, _, _, _, o => x_skip
  | .FunctionDef _ _ _ _ _ _ _ _ _ _, _, _, _, o | .AsyncFunctionDef _ _ _ _ _ _ _ _ _ _, _, _, _, o | .ClassDef _ _ _ _ _ _ _ _ _ _ _, _, _, _, o | .Delete _ _, _, _, _, o | .TypeAlias _ _ _ _ _ _ _, _, _, _, o
  | .AugAssign _ _ _ _, _, _, _, o | .AnnAssign _ _ _ _ _, _, _, _, o | .AsyncFor _ _ _ _ _, _, _, _, o | .With _ _ _, _, _, _, o | .AsyncWith _ _ _, _, _, _, o | .Match _ _ _, _, _, _, o | .Raise _ _ _, _, _, _, o
  | .Try _ _ _ _ _, _, _, _, o | .TryStar _ _ _ _ _, _, _, _, o | .Assert _ _ _, _, _, _, o | .Import _ _, _, _, _, o | .ImportFrom _ _ _ _, _, _, _, o | .Global _ _, _, _, _, o | .Nonlocal _ _, _, _, _, o => x_bad
theorem xs_snd (S : Stc) : ∀ (sts : List Stmt) {Φ : FEnv} {W : WX} {X : Cx}, XS S Φ W X → PSs X sts (rS X W (exs Φ (trSs S sts)))
  | [], _, _, _, o => xs_nil
  | s :: r, _, _, _, o => xs_cons (x_snd S s o) (xs_snd S r o)
end
end
end Sn
namespace Sn
open PySem PySem.Spec PyProof.Rows L2 RZ
/-! ### a def's end: what changed within is given up -/
mutual
def lb (n : Nat) : PV → Bool
  | .tup _ xs => lbs n xs
  | .lst xs => lbs n xs
  | .scr xs => lbs n xs
  | .dct _ xs => lbs n xs
  | .loc l => decide (l < n)
  | _ => true
def lbs (n : Nat) : List PV → Bool
  | [] => true
  | x :: xs => lb n x && lbs n xs
end
def lbM (n : Nat) : MO → Bool
  | .lst xs => lbs n xs
  | .dct _ xs => lbs n xs
  | .ins _ fs => lbs n (fs.map (·.2))
/-- what is given back: a thing that changed within stands still -/
def givS (n : Nat) (m : Mu) : PV → PV
  | .loc l => if l < n then .loc l else match m[l]? with
    | some (.lst xs) => .lst xs
    | some (.dct ks xs) => .dct ks xs
    | some (.ins _ _) => .loc l
    | none => .loc l
  | p => p
def fin (n : Nat) (p : PV) (m : Mu) : Res PV :=
  if m.length ≤ n then .ok p m else if lb n (givS n m p) && (m.take n).all (lbM n) then .ok (givS n m p) (m.take n) else .stuck
/-- a new thing that changes is given as it is -/
def finK (n : Nat) (p : PV) (m : Mu) : Res PV := match p with
  | .loc l => if n ≤ l then match m[l]? with
      | some o => if lbM n o && (m.take n).all (lbM n) then .ok (.loc n) (m.take n ++ [o]) else .stuck
      | none => .stuck
    else fin n (.loc l) m
  | p => fin n p m
def finX (n : Nat) (c : Str) (p : Option PV) (m : Mu) : Res PV :=
  if m.length ≤ n then .exc c p m else if (p.map (lb n)).getD true && (m.take n).all (lbM n) then .exc c p (m.take n) else .stuck
def exitS (fr : Bool) (n : Nat) : SR → Res PV
  | .rt p m => if fr = true then finK n p m else fin n p m
  | .nx _ m => fin n .non m
  | .xc c p _ m => finX n c p m
  | _ => .stuck
structure Dfn where
  fr : Bool
  n : Nat
  w : Nat
  body : Stms
def startR (w : Nat) (args : List PV) : Rho := args.map some ++ List.replicate (w - args.length) none
noncomputable def runD (Φ : FEnv) (d : Dfn) (args : List PV) (m : Mu) : Res PV :=
  if args.length = d.n then exitS d.fr m.length (exs Φ d.body (startR d.w args) m) else .stuck
abbrev Tbl := Str → Option Dfn
noncomputable def Lv (T : Tbl) : Nat → FEnv
  | 0 => fun _ _ _ => .stuck
  | k + 1 => fun f args m => match T f with
    | some d => runD (Lv T k) d args m
    | none => .stuck
section
variable {K : PySem.W.Frag} {I J B : List Addr} {H : Hp} {m : Mu}
theorem mem_cutK {a x : Addr} (hJ : a ∈ J) (hm : x ∈ I ++ [a]) : x ∈ I ++ J := by
  rcases List.mem_append.mp hm with h | h
  · exact List.mem_append_left _ h
  · simp at h; subst h; exact List.mem_append_right _ hJ
mutual
theorem RV.cut : ∀ {v : V} {p : PV}, RV K B (I ++ J) H v p → lb I.length p = true → RV K B I H v p
  | _, _, .non, _ => .non
  | _, _, .bl b, _ => .bl b
  | _, _, .int i, _ => .int i
  | _, _, .str x, _ => .str x
  | _, _, .ty x, _ => .ty x
  | _, _, .tup h hs, e => .tup h (RVs.cut hs (by simpa only [lb] using e))
  | _, _, .lst h ha hb hs, e => .lst h (fun hm => ha (List.mem_append_left _ hm)) hb (RVs.cut hs (by simpa only [lb] using e))
  | _, _, .dct h ha hb hd hs, e => .dct h (fun hm => ha (List.mem_append_left _ hm)) hb hd (RVs.cut hs (by simpa only [lb] using e))
  | _, _, .scr h hs, e => .scr (h.imp (fun ⟨h, ha, hb⟩ => ⟨h, fun hm => ha (List.mem_append_left _ hm), hb⟩) id) (RVs.cut hs (by simpa only [lb] using e))
  | _, _, .loc (l := l) h, e => .loc (by
      have e2 : l < I.length := by simpa only [lb, decide_eq_true_eq] using e
      rw [List.getElem?_append_left e2] at h
      exact h)
theorem RVs.cut : ∀ {vs : List V} {ps : List PV}, RVs K B (I ++ J) H vs ps → lbs I.length ps = true → RVs K B I H vs ps
  | _, _, .nil, _ => .nil
  | _, _, .cons h hs, e => by
    simp only [lbs, Bool.and_eq_true] at e
    exact .cons (RV.cut h e.1) (RVs.cut hs e.2)
end
mutual
theorem RV.cutK {a : Addr} (hJ : a ∈ J) : ∀ {v : V} {p : PV}, RV K B (I ++ J) H v p → lb I.length p = true → RV K B (I ++ [a]) H v p
  | _, _, .non, _ => .non
  | _, _, .bl b, _ => .bl b
  | _, _, .int i, _ => .int i
  | _, _, .str x, _ => .str x
  | _, _, .ty x, _ => .ty x
  | _, _, .tup h hs, e => .tup h (RVs.cutK hJ hs (by simpa only [lb] using e))
  | _, _, .lst h ha hb hs, e => .lst h (fun hm => ha (mem_cutK hJ hm)) hb (RVs.cutK hJ hs (by simpa only [lb] using e))
  | _, _, .dct h ha hb hd hs, e => .dct h (fun hm => ha (mem_cutK hJ hm)) hb hd (RVs.cutK hJ hs (by simpa only [lb] using e))
  | _, _, .scr h hs, e => .scr (h.imp (fun ⟨h, ha, hb⟩ => ⟨h, fun hm => ha (mem_cutK hJ hm), hb⟩) id) (RVs.cutK hJ hs (by simpa only [lb] using e))
  | _, _, .loc (l := l) h, e => .loc (by
      have e2 : l < I.length := by simpa only [lb, decide_eq_true_eq] using e
      rw [List.getElem?_append_left e2] at h ⊢
      exact h)
theorem RVs.cutK {a : Addr} (hJ : a ∈ J) : ∀ {vs : List V} {ps : List PV}, RVs K B (I ++ J) H vs ps → lbs I.length ps = true → RVs K B (I ++ [a]) H vs ps
  | _, _, .nil, _ => .nil
  | _, _, .cons h hs, e => by
    simp only [lbs, Bool.and_eq_true] at e
    exact .cons (RV.cutK hJ h e.1) (RVs.cutK hJ hs e.2)
end
theorem MOk.cutK {a : Addr} (hJ : a ∈ J) {b : Addr} {o : MO} (z : MOk K B (I ++ J) H b o) (hb : lbM I.length o = true) : MOk K B (I ++ [a]) H b o := by
  cases o with
  | lst ys =>
    obtain ⟨ws, e3, r⟩ := z
    exact ⟨ws, e3, r.cutK hJ hb⟩
  | dct ks xs =>
    obtain ⟨o, ws, e3, d, r⟩ := z
    exact ⟨o, ws, e3, d, r.cutK hJ hb⟩
  | ins C fs =>
    obtain ⟨Ca, dx, ws, n, oc, e3, hn, r⟩ := z
    exact ⟨Ca, dx, ws, n, oc, e3, hn, r.cutK hJ hb⟩
theorem RM.cutK (h : RM K B (I ++ J) H m) {l : Nat} {a : Addr} {o : MO} (hl : (I ++ J)[l]? = some a) (hn : I.length ≤ l) (ho : m[l]? = some o) (hb : lbM I.length o = true) (e : (m.take I.length).all (lbM I.length) = true) : RM K B (I ++ [a]) H (m.take I.length ++ [o]) := by
  have ha : a ∈ J := by
    rw [List.getElem?_append_right hn] at hl
    exact List.mem_of_getElem? hl
  have hlen := h.len
  rw [List.length_append] at hlen
  have nod := h.nod
  rw [List.nodup_append] at nod
  have htk : (m.take I.length).length = I.length := by rw [List.length_take]; omega
  refine ⟨by rw [List.length_append, List.length_append, htk]; rfl, ?_, h.trB, fun b hb' hm => h.dis b hb' (mem_cutK ha hm), fun k b o' e1 e2 => ?_⟩
  · rw [List.nodup_append]
    exact ⟨nod.1, by simp, fun x hx y hy => by simp at hy; subst hy; exact nod.2.2 x hx y ha⟩
  · by_cases hk : k < I.length
    · rw [List.getElem?_append_left hk] at e1
      rw [List.getElem?_append_left (by rw [htk]; exact hk)] at e2
      have e2' : m[k]? = some o' := by rw [List.getElem?_take, if_pos hk] at e2; exact e2
      exact (h.at_ k b o' (by rw [List.getElem?_append_left hk]; exact e1) e2').cutK ha (List.all_eq_true.mp e o' (List.mem_of_getElem? e2))
    · have hk2 : k = I.length := by
        have := (List.getElem?_eq_some_iff.mp e1).1
        simp at this; omega
      subst hk2
      rw [List.getElem?_append_right (Nat.le_refl _)] at e1
      rw [List.getElem?_append_right (by omega), htk] at e2
      simp at e1 e2
      subst e1 e2
      exact (h.at_ l a o hl ho).cutK ha hb
theorem RM.cut (h : RM K B (I ++ J) H m) (e : (m.take I.length).all (lbM I.length) = true) : RM K B I H (m.take I.length) := by
  have hl := h.len
  rw [List.length_append] at hl
  have nod := h.nod
  rw [List.nodup_append] at nod
  refine ⟨by rw [List.length_take]; omega, nod.1, h.trB, fun a ha hm => h.dis a ha (List.mem_append_left _ hm), fun l a o e1 e2 => ?_⟩
  have hlt : l < I.length := (List.getElem?_eq_some_iff.mp e1).1
  have e2' : m[l]? = some o := by rw [List.getElem?_take] at e2; rw [if_pos hlt] at e2; exact e2
  have z := h.at_ l a o (by rw [List.getElem?_append_left hlt]; exact e1) e2'
  have hb : lbM I.length o = true := List.all_eq_true.mp e o (List.mem_of_getElem? e2)
  cases o with
  | lst ys =>
    obtain ⟨ws, e3, r⟩ := z
    exact ⟨ws, e3, r.cut hb⟩
  | dct ks xs =>
    obtain ⟨o, ws, e3, d, r⟩ := z
    exact ⟨o, ws, e3, d, r.cut hb⟩
  | ins C fs =>
    obtain ⟨Ca, dx, ws, n, oc, e3, hn, r⟩ := z
    exact ⟨Ca, dx, ws, n, oc, e3, hn, r.cut hb⟩
end
section
variable {X : Cx} {W : WX} {B I : List Addr} {H : Hp} {m : Mu} {Q : VK} {E : XK}
theorem fin_ok {p : PV} {m' : Mu} (hl : I.length = m.length) (h : rok X.mg X.K (rV X.K B) B I H Q E (fin m.length p m')) : ∀ v I' H', Nx I I' H H' → RM X.K B I' H' m' → RV X.K B I' H' v p → Q v H' := by
  intro v I' H' n rm rv
  obtain ⟨J, rfl, hJ⟩ := n.ext
  have hlen := rm.len
  rw [List.length_append] at hlen
  unfold fin at h
  split at h
  · exact h v _ H' n rm rv
  · split at h
    · rename_i hc
      simp only [Bool.and_eq_true] at hc
      rw [← hl] at hc h
      have rm2 := rm.cut hc.2
      have n2 : Nx I I H H' := ⟨⟨[], by simp, by simp⟩, fun a o e ha => n.keep a o e ha, n.dom⟩
      refine h v I H' n2 rm2 ?_
      show RV _ _ _ _ _ _
      cases rv with
      | loc e =>
        rename_i a l
        by_cases hlt : l < I.length
        · have hg : givS I.length m' (.loc l) = .loc l := by simp only [givS, if_pos hlt]
          rw [hg]
          rw [List.getElem?_append_left hlt] at e
          exact .loc e
        · have hg : givS I.length m' (.loc l) = match m'[l]? with
            | some (.lst xs) => .lst xs
            | some (.dct ks xs) => .dct ks xs
            | some (.ins _ _) => .loc l
            | none => .loc l := by simp only [givS, if_neg hlt]
          rw [hg] at hc ⊢
          split at hc
          · rename_i xs hx
            obtain ⟨vs, hv, rvs⟩ := rm.at_ l a _ e hx
            have ha : a ∈ J := by
              rw [List.getElem?_append_right (Nat.le_of_not_lt hlt)] at e
              exact List.mem_of_getElem? e
            have nod := rm.nod
            rw [List.nodup_append] at nod
            exact .lst hv (fun hm => nod.2.2 a hm a ha rfl) (fun hb => rm.dis a hb (List.mem_append_right _ ha)) (rvs.cut (by simpa only [lb] using hc.1))
          · rename_i ks xs hx
            obtain ⟨o, vs, hv, hd, rvs⟩ := rm.at_ l a _ e hx
            have ha : a ∈ J := by
              rw [List.getElem?_append_right (Nat.le_of_not_lt hlt)] at e
              exact List.mem_of_getElem? e
            have nod := rm.nod
            rw [List.nodup_append] at nod
            exact .dct (.inl hv) (fun hm => nod.2.2 a hm a ha rfl) (fun hb => rm.dis a hb (List.mem_append_right _ ha)) hd (rvs.cut (by simpa only [lb] using hc.1))
          · have := hc.1
            simp only [lb, decide_eq_true_eq] at this
            exact absurd this hlt
          · have := hc.1
            simp only [lb, decide_eq_true_eq] at this
            exact absurd this hlt
      | tup h1 h2 => exact (RV.tup h1 h2).cut hc.1
      | lst h1 h2 h3 h4 => exact (RV.lst h1 h2 h3 h4).cut hc.1
      | dct h1 h2 h3 h4 h5 => exact (RV.dct h1 h2 h3 h4 h5).cut hc.1
      | scr h1 h2 => exact (RV.scr h1 h2).cut hc.1
      | non => exact .non
      | bl b => exact .bl b
      | int b => exact .int b
      | str b => exact .str b
      | ty b => exact .ty b
    · exact h.elim
theorem finK_ok {p : PV} {m' : Mu} (hl : I.length = m.length) (h : rok X.mg X.K (rV X.K B) B I H Q E (finK m.length p m')) : ∀ v I' H', Nx I I' H H' → RM X.K B I' H' m' → RV X.K B I' H' v p → Q v H' := by
  intro v I' H' n rm rv
  unfold finK at h
  split at h
  · rename_i l
    split at h
    · rename_i hn
      split at h
      · rename_i o ho
        split at h
        · rename_i hc
          simp only [Bool.and_eq_true] at hc
          obtain ⟨J, rfl, hJ⟩ := n.ext
          cases rv with
          | loc e =>
            rename_i a
            rw [← hl] at hn hc h
            have ha : a ∈ J := by
              rw [List.getElem?_append_right hn] at e
              exact List.mem_of_getElem? e
            have rm2 := rm.cutK e hn ho hc.1 hc.2
            have n2 : Nx I (I ++ [a]) H H' := ⟨⟨[a], rfl, fun b hb => by simp at hb; subst hb; exact hJ _ ha⟩, fun b o eb hb => n.keep b o eb hb, n.dom⟩
            exact h _ (I ++ [a]) H' n2 rm2 (.loc (by simp))
        · exact h.elim
      · exact h.elim
    · exact fin_ok hl h v I' H' n rm rv
  · exact fin_ok hl h v I' H' n rm rv
theorem exit_sok {fr : Bool} {r : SR} {bk ct : L2.St → Hp → Prop} (hl : I.length = m.length) (h : rok X.mg X.K (rV X.K B) B I H Q E (exitS fr m.length r)) : sok X (fun cls d _ H' => E cls d H') ⟨fun _ H' => Q .non H', Q, bk, ct⟩ B I H r := by
  cases r with
  | nx ρ m' => exact fun σ' I' H' n rs => fin_ok hl h .non I' H' n rs.rm .non
  | rt p m' =>
    simp only [exitS] at h
    split at h
    · exact fun v I' H' n rm rv => finK_ok hl h v I' H' n rm rv
    · exact fun v I' H' n rm rv => fin_ok hl h v I' H' n rm rv
  | bk _ _ => exact h.elim
  | ct _ _ => exact h.elim
  | stuck => exact h.elim
  | xc c p ρ m' =>
    intro cls d σ' I' H' n rs rx
    have rm := rs.rm
    obtain ⟨J, rfl, hJ⟩ := n.ext
    simp only [exitS] at h
    unfold finX at h
    split at h
    · exact h cls d _ H' n rm rx
    · split at h
      · rename_i hc
        simp only [Bool.and_eq_true] at hc
        rw [← hl] at hc h
        have rm2 := rm.cut hc.2
        have n2 : Nx I I H H' := ⟨⟨[], by simp, by simp⟩, fun a o e ha => n.keep a o e ha, n.dom⟩
        refine h cls d I H' n2 rm2 ?_
        cases p with
        | none => exact rx
        | some p =>
          obtain ⟨h1, dd, v, h2, h3, h4, h5⟩ := rx
          exact ⟨h1, dd, v, h2, fun hm => h3 (List.mem_append_left _ hm), h4, h5.cut (by simpa using hc.1)⟩
      · exact h.elim
end
/-! ### a def by its text -/
abbrev Kwt := List (Str × Nat × List Str × List Nat)
/-- the own classes: what can be made, static methods, attributes -/
structure Oth where
  mks : List (Str × Nat)
  sms : List (Str × Str)
  flds : List (Str × Str)
/-- no def of the program's top -/
def hasDot (f : Str) : Bool := f.cps.contains 46
structure DefOk (K : PySem.W.Frag) (mg : Str → Option Value) (kwt : Kwt) (ot : Oth) (S : Stc) (f : Str) (d : Dfn) (ps : List Str) (st : Stmt) (fa : Addr) (fd : FuncData) (nm qual : Str) : Prop where
  F : Fun K nm qual st fa fd
  g : hasDot f = false → mg f = some (.ref fa)
  b : L2.Binds K fd ps []
  sc : FnScope S.N ps (defScope st)
  eqS : S.sc = defScope st
  body : d.body = trSs S (defBody st)
  n : d.n = ps.length
  w : d.w = S.N.length
  kb : ∀ n ks perm, (f, n, ks, perm) ∈ kwt → KBinds K fd ps ks (permW n ks.length perm) (permW n ks.length perm)
  mkc : ∀ C n, ot.mks.lookup C = some n → f = initOf C → ∃ Ca, mg C = some (.ref Ca) ∧ PySem.W.nsIn K mainGlobals C = some (some (.ref Ca)) ∧ ObC K Ca ∧ Mk K Ca fa
  sm : ∀ C m, (C, m) ∈ ot.sms → f = statOf C m → ∃ Ca, mg C = some (.ref Ca) ∧ SMet K Ca m fa
/-- what the globals are -/
structure GlOk (K : PySem.W.Frag) (mg : Str → Option Value) (con : List (Str × PV)) : Prop where
  rng : mg "range" = none
  zp : mg "zip" = none
  enm : mg "enumerate" = none
  con : ∀ x p, con.lookup x = some p → ∃ v u, mg x = some u ∧ RelV v u ∧ ∀ B I H m, RM K B I H m → RV K B I H v p
  blt : ∀ x ∈ bltFns, mg x = none
  bty : ∀ x t, bltTys.lookup x = some t → mg x = none
theorem RS.start {K : PySem.W.Frag} {I B : List Addr} {H : Hp} {m : Mu} {vs : List V} {args : List PV} {N : List Str} (rm : RM K B I H m) (rv : RVs K B I H vs args) (hn : vs.length ≤ N.length) : RS K B I H (L2.start N vs) (startR N.length args) m := by
  have hl := rv.length
  refine ⟨rm, by simp [L2.start, startR, hl], fun i p e => ?_⟩
  unfold startR at e
  by_cases hi : i < args.length
  · rw [List.getElem?_append_left (by simpa using hi), List.getElem?_map, Option.map_eq_some_iff] at e
    obtain ⟨q, e1, e2⟩ := e
    cases e2
    obtain ⟨v, e3, r⟩ := rv.get e1
    refine ⟨v, ?_, r⟩
    unfold L2.start
    rw [List.getElem?_append_left (by simpa [hl] using hi), List.getElem?_map, e3]
    rfl
  · rw [List.getElem?_append_right (by simpa using Nat.le_of_not_lt hi)] at e
    rw [List.getElem?_replicate] at e
    split at e <;> cases e
theorem Room.le {k k' : Nat} {A : Around} (h : Room k A) (hk : k' ≤ k) : Room k' A := h.mono hk
/-- the table of defs with their places -/
structure Lib (K : PySem.W.Frag) (mg : Str → Option Value) (T : Tbl) (con : List (Str × PV)) (kwt : Kwt) (ot : Oth) : Prop where
  gl : GlOk K mg con
  kws : ∀ g n ks perm, (g, n, ks, perm) ∈ kwt → hasDot g = false ∧ ∃ d, T g = some d
  mks : ∀ C n, ot.mks.lookup C = some n → ∃ d, T (initOf C) = some d
  sms : ∀ C m, (C, m) ∈ ot.sms → ∃ d, T (statOf C m) = some d
  flds : ∀ C f, (C, f) ∈ ot.flds → ∀ Ca, PySem.W.nsIn K mainGlobals C = some (some (.ref Ca)) → NoAttr K Ca f
  fns : ∀ f d, T f = some d → ∃ S ps st fa fd nm qual, DefOk K mg kwt ot S f d ps st fa fd nm qual ∧ S.con = con ∧ S.kws = kwt ∧ (S.mks = ot.mks ∧ S.sms = ot.sms ∧ S.flds = ot.flds) ∧ ∀ g n, S.fns.lookup g = some n → hasDot g = false ∧ ∃ d', T g = some d' ∧ d'.n = n
theorem fn_step {P : Program} {w : World} {K : PySem.W.Frag} {mg : Str → Option Value} {base : Heap} {T : Tbl} {con : List (Str × PV)} {kwt : Kwt} {ot : Oth} (L : Lib K mg T con kwt ot) {k : Nat} (ih : ∀ (f : Str) (d : Dfn), T f = some d →
    ∃ S ps st fa fd nm qual, DefOk K mg kwt ot S f d ps st fa fd nm qual ∧ FnOk P w K mg base (L2.CX P w) (2 * k) fa fd ps (spF mg K (Lv T k f))) {f : Str} {d : Dfn} (hf : T f = some d) {S : Stc} {ps : List Str} {st : Stmt} {fa : Addr} {fd : FuncData} {nm qual : Str} (h : DefOk K mg kwt ot S f d ps st fa fd nm qual) (hcon : S.con = con) (hkw : S.kws = kwt)
    (hot : S.mks = ot.mks ∧ S.sms = ot.sms ∧ S.flds = ot.flds) (hfns : ∀ g n, S.fns.lookup g = some n → hasDot g = false ∧ ∃ d', T g = some d' ∧ d'.n = n) : FnOk P w K mg base (L2.CX P w) (2 * (k + 1)) fa fd ps (spF mg K (Lv T (k + 1) f)) := by
  have hL : ∀ args m, Lv T (k + 1) f args m = runD (Lv T k) d args m := fun args m => by simp only [Lv, hf]
  have hn : ps.length ≤ S.N.length := by
    have := congrArg List.length h.sc.pre
    rw [List.length_take] at this
    omega
  refine h.F.okX (k := 2 * k + 1) h.sc (fun vs H Q E ⟨args, m, I, B, rm, rv, z⟩ => ?_) fun cdv A outer s H vs Q E hr ⟨args, m, I, B, rm, rv, z⟩ => ?_
  · rw [hL] at z
    unfold runD at z
    split at z
    · rename_i hz
      rw [rv.length, hz, h.n]
    · exact z.elim
  · rw [hL] at z
    unfold runD at z
    split at z
    rotate_left
    · exact z.elim
    rename_i hz
    have hr2 := hr.mono (Nat.le_succ (2 * k))
    have o : XS S (Lv T k) (fun cls d _ H' => E cls d H') (cxOf (L2.CX P w) P w K mg base S.N qual (defScope st) fa cdv A outer s H E) := by
      refine ⟨⟨rfl, h.eqS.symm, fun _ _ => rfl, L.gl.rng, L.gl.zp, L.gl.enm, h.sc.nd, rfl, ?_, ?_, L.gl.blt, L.gl.bty, fun g n hg => ?_, fun g n ks perm hg => ?_, takes_of rfl rfl rfl rfl, fun C n hg => ?_, fun C m hg => ?_, fun C f hg => ?_⟩, ?_, passes_of rfl⟩
      · have := hr.un
        show (A.deeper _).units + 66 < cLine
        omega
      · rw [hcon]; exact L.gl.con
      · obtain ⟨hd, d', hg', hn'⟩ := hfns g n hg
        obtain ⟨S', ps', st', fa', fd', nm', qual', h', F'⟩ := ih g d' hg'
        exact ⟨fa', fd', ps', 2 * k, h'.g hd, h'.F.kp, hr2, h'.b, F'⟩
      · rw [hkw] at hg
        obtain ⟨hd, d', hg'⟩ := L.kws g n ks perm hg
        obtain ⟨S', ps', st', fa', fd', nm', qual', h', F'⟩ := ih g d' hg'
        exact ⟨⟨fa', fd', ps', 2 * k, h'.g hd, h'.F.kp, hr2, h'.kb n ks perm hg, F'⟩⟩
      · rw [hot.1] at hg
        obtain ⟨d', hg'⟩ := L.mks C n hg
        obtain ⟨S', ps', st', fa', fd', nm', qual', h', F'⟩ := ih _ d' hg'
        obtain ⟨Ca, h1, h2, h3, h4⟩ := h'.mkc C n hg rfl
        exact ⟨⟨Ca, fa', fd', ps', 2 * k, h1, h2, h3, h4, hr, h'.b, F'⟩⟩
      · rw [hot.2.1] at hg
        obtain ⟨d', hg'⟩ := L.sms C m hg
        obtain ⟨S', ps', st', fa', fd', nm', qual', h', F'⟩ := ih _ d' hg'
        obtain ⟨Ca, h1, h2⟩ := h'.sm C m hg rfl
        exact ⟨⟨Ca, fa', fd', ps', 2 * k, h1, h2, hr2, h'.b, F'⟩⟩
      · rw [hot.2.2] at hg
        exact L.flds C f hg
      · rw [h.eqS]; exact h.sc.kind
    refine ⟨_, xs_snd S (defBody st) o, startR d.w args, m, I, B, ?_, ?_⟩
    · rw [h.w]
      exact RS.start rm rv (by rw [rv.length, hz, h.n]; exact hn)
    · rw [← h.body]
      exact exit_sok rm.len z
theorem lib_ok {P : Program} {w : World} {K : PySem.W.Frag} {mg : Str → Option Value} {base : Heap} {T : Tbl} {con : List (Str × PV)} {kwt : Kwt} {ot : Oth} (L : Lib K mg T con kwt ot) : ∀ (k : Nat) (f : Str) (d : Dfn), T f = some d →
    ∃ S ps st fa fd nm qual, DefOk K mg kwt ot S f d ps st fa fd nm qual ∧ FnOk P w K mg base (L2.CX P w) (2 * k) fa fd ps (spF mg K (Lv T k f)) := by
  intro k
  induction k with
  | zero =>
    intro f d hf
    obtain ⟨S, ps, st, fa, fd, nm, qual, h, _⟩ := L.fns f d hf
    exact ⟨S, ps, st, fa, fd, nm, qual, h, ⟨fun vs H Q E ⟨_, _, _, _, _, _, z⟩ => z.elim, fun _ _ _ _ _ _ _ _ _ _ _ _ _ ⟨_, _, _, _, _, _, z⟩ => z.elim⟩⟩
  | succ k ih =>
    intro f d hf
    obtain ⟨S, ps, st, fa, fd, nm, qual, h, hcon, hkw, hot, hfns⟩ := L.fns f d hf
    exact ⟨S, ps, st, fa, fd, nm, qual, h, fn_step L ih hf h hcon hkw hot hfns⟩
theorem lib_fn {P : Program} {w : World} {K : PySem.W.Frag} {mg : Str → Option Value} {base : Heap} {T : Tbl} {con : List (Str × PV)} {kwt : Kwt} {ot : Oth} (L : Lib K mg T con kwt ot) {k : Nat} {f : Str} {d : Dfn} (hf : T f = some d) {S : Stc} {ps : List Str} {st : Stmt} {fa : Addr} {fd : FuncData} {nm qual : Str} (h : DefOk K mg kwt ot S f d ps st fa fd nm qual) (hcon : S.con = con) (hkw : S.kws = kwt)
    (hot : S.mks = ot.mks ∧ S.sms = ot.sms ∧ S.flds = ot.flds) (hfns : ∀ g n, S.fns.lookup g = some n → hasDot g = false ∧ ∃ d', T g = some d' ∧ d'.n = n) : FnOk P w K mg base (L2.CX P w) (2 * (k + 1)) fa fd ps (spF mg K (Lv T (k + 1) f)) := fn_step L (lib_ok L k) hf h hcon hkw hot hfns
end Sn
namespace Sn
open PySem PySem.Spec PyProof.Rows L2 RZ
/-! ### the law's own promise -/
def spLaw (K : PySem.W.Frag) (n : Nat) : Sp := fun vs H Q _ => ∃ (a : Addr) (ns : List Int), vs = [.ref a] ∧ SqL K H a (ns.map V.int) ∧ ns.length ≤ n ∧ ∀ H', Q (.bl true) H'
theorem fnOk_imp {P : Program} {w : World} {K : PySem.W.Frag} {mg : Str → Option Value} {base : Heap} {CX : CXT} {k : Nat} {f : Addr} {fd : FuncData} {ps : List Str} {sp sp' : Sp} (F : FnOk P w K mg base CX k f fd ps sp) (h : ∀ vs H Q E, sp' vs H Q E → sp vs H Q E) : FnOk P w K mg base CX k f fd ps sp' :=
  ⟨fun vs H Q E q => F.len vs H Q E (h vs H Q E q), fun A outer s H args us vs Q E r e b v q => F.run A outer s H args us vs Q E r e b v (h vs H Q E q)⟩
theorem rvs_ints {K : PySem.W.Frag} {B I : List Addr} {H : Hp} : ∀ ns : List Int, RVs K B I H (ns.map V.int) (ns.map PV.int)
  | [] => .nil
  | n :: ns => .cons (.int n) (rvs_ints ns)
theorem law_sp {K : PySem.W.Frag} {mg : Str → Option Value} {n : Nat} {φ : List PV → Mu → Res PV} (plain : ∀ ns : List Int, ns.length ≤ n → ∃ m', φ [.scr (ns.map .int)] [] = .ok (.bl true) m') : ∀ vs H Q E, spLaw K n vs H Q E → spF mg K φ vs H Q E := by
  rintro vs H Q E ⟨a, ns, rfl, hS, hl, q⟩
  obtain ⟨m', e⟩ := plain ns hl
  refine ⟨[.scr (ns.map .int)], [], [], [], ⟨rfl, .nil, by simp, by simp, by simp⟩, .cons (.scr ?_ (rvs_ints ns)) .nil, ?_⟩
  · rcases hS with h | h
    · exact .inl ⟨h, by simp, by simp⟩
    · exact .inr ⟨fun _ => .inr h, trivial⟩
  · rw [e]
    intro v I' H' _ _ rv
    cases rv
    exact q H'
/-- a def of the table, with what the program's top has written of it -/
structure DefAt (K : PySem.W.Frag) (f : Str) (st : Stmt) where
  fa : Addr
  fd : FuncData
  F : Fun K f f st fa fd
  ns : PySem.W.nsIn K mainGlobals f = some (some (.ref fa))
theorem def_at {K : PySem.W.Frag} {f : Str} {st : Stmt} {fa : Addr} {oc : Value} {od an : Option Addr} {osl : Array (Option Value)} {kV doc pm cdv ct : Value}
    (a : PySem.W.nsIn K mainGlobals f = some (some (.ref fa))) (l : K.lookup fa = some { cls := oc, dict := od, data := .func (PySem.W.fnOf f f (defArgs st) (defBody st) (defScope st) .none kV doc pm an cdv ct), slots := osl })
    (c : PySem.W.codeIn K cdv f = true) (k : PySem.W.keepIn K (.ref fa) = true) : ∃ fa fd, Fun K f f st fa fd ∧ PySem.W.nsIn K mainGlobals f = some (some (.ref fa)) := ⟨fa, _, fun_mk l c k, a⟩
/-- more turns change nothing -/
theorem whN_more {test : Rho → Mu → Res Bool} {step : Rho → Mu → SR} : ∀ {n : Nat} {ρ : Rho} {m : Mu}, whN test step n ρ m ≠ .stuck → ∀ k, whN test step (n + k) ρ m = whN test step n ρ m
  | 0, ρ, m, h, k => absurd rfl h
  | n + 1, ρ, m, h, k => by
    rw [Nat.add_right_comm]
    rw [whN_go] at h ⊢
    rw [whN_go]
    cases e : test ρ m with
    | ok b m1 =>
      rw [e] at h
      simp only [Res.go] at h ⊢
      cases b with
      | false => rfl
      | true =>
        simp only [if_true] at h ⊢
        cases e2 : step ρ m1 with
        | nx ρ2 m2 => rw [e2] at h; exact whN_more h k
        | ct ρ2 m2 => rw [e2] at h; exact whN_more h k
        | _ => rfl
    | exc c p m1 => rfl
    | stuck => rw [e] at h; exact absurd rfl h
/-- a while loop by a number of turns that is enough -/
theorem whL_of {test : Rho → Mu → Res Bool} {step : Rho → Mu → SR} {n : Nat} {ρ : Rho} {m : Mu} {r : SR} (e : whN test step n ρ m = r) (h : r ≠ .stuck) : whL test step ρ m = r := by
  have hex : ∃ n, whN test step n ρ m ≠ .stuck := ⟨n, by rw [e]; exact h⟩
  unfold whL
  rw [dif_pos hex]
  have hc := hex.choose_spec
  have h1 := whN_more (n := n) (by rw [e]; exact h) hex.choose
  have h2 := whN_more hc n
  rw [Nat.add_comm] at h2
  rw [← h2, h1, e]
/-! ### a table's facts -/
theorem vals_perm {vs : List V} {us : List Value} (r : Vals vs us) : ∀ perm : List Nat, Vals (permV perm vs) (permV perm us)
  | [] => .nil
  | i :: perm => by
    have ih := vals_perm r perm
    have hl := Vals.length r
    unfold permV at ih ⊢
    by_cases hi : i < vs.length
    · obtain ⟨u, e1, ru⟩ := Vals.get r (List.getElem?_eq_getElem hi)
      rw [List.filterMap_cons, List.filterMap_cons, e1, List.getElem?_eq_getElem hi]
      exact .cons ru ih
    · rw [List.filterMap_cons, List.filterMap_cons, List.getElem?_eq_none (by omega), List.getElem?_eq_none (by omega)]
      exact ih
theorem vals_app {vs zs : List V} {us ws : List Value} : Vals vs us → Vals zs ws → Vals (vs ++ zs) (us ++ ws)
  | .nil, q => q
  | .cons r rs, q => .cons r (vals_app rs q)
theorem vals_permW {vs zs : List V} {us ws : List Value} (r : Vals vs us) (q : Vals zs ws) (n k : Nat) (perm : List Nat) : Vals (permW n k perm vs zs) (permW n k perm us ws) := by
  unfold permW
  rw [Vals.length r, Vals.length q]
  split
  · exact vals_perm (vals_app r q) perm
  · exact .nil
theorem lookup_tab {g : Str} {n : Nat} : ∀ {tab : List (Str × Dfn)}, ((tab.filter fun e => !hasDot e.1).map fun e => (e.1, e.2.n)).lookup g = some n → hasDot g = false ∧ ∃ d, tab.lookup g = some d ∧ d.n = n
  | [], h => by cases h
  | (f, d) :: r, h => by
    by_cases hd : hasDot f = true
    · rw [List.filter_cons_of_neg (by simp [hd])] at h
      obtain ⟨h1, d', h2, h3⟩ := lookup_tab h
      refine ⟨h1, d', ?_, h3⟩
      rw [List.lookup_cons]
      split
      · rename_i e
        have e := eq_of_beq e
        subst e
        rw [hd] at h1
        cases h1
      · exact h2
    · rw [List.filter_cons_of_pos (by simpa using hd)] at h
      simp only [List.map_cons, List.lookup_cons] at h ⊢
      split at h
      · rename_i e
        have e := eq_of_beq e
        subst e
        exact ⟨by simpa using hd, d, rfl, Option.some.inj h⟩
      · exact lookup_tab h
/-- what a table has to show of each def -/
def AtTab (K : PySem.W.Frag) (mg : Str → Option Value) (con : List (Str × PV)) (fns : List (Str × Nat)) (kws : Kwt) (ot : Oth) (e : Str × Dfn) : Prop :=
  ∃ S ps st fa fd nm qual, DefOk K mg kws ot S e.1 e.2 ps st fa fd nm qual ∧ S.con = con ∧ S.kws = kws ∧ (S.mks = ot.mks ∧ S.sms = ot.sms ∧ S.flds = ot.flds) ∧ S.fns = fns
theorem lib_of {K : PySem.W.Frag} {mg : Str → Option Value} {con : List (Str × PV)} {kws : Kwt} {ot : Oth} {fns : List (Str × Nat)} {tab : List (Str × Dfn)} (gl : GlOk K mg con) (hf : fns = (tab.filter fun e => !hasDot e.1).map fun e => (e.1, e.2.n)) (hk : ∀ e ∈ kws, hasDot e.1 = false ∧ ∃ d, tab.lookup e.1 = some d)
    (hm : ∀ e ∈ ot.mks, ∃ d, tab.lookup (initOf e.1) = some d) (hs : ∀ e ∈ ot.sms, ∃ d, tab.lookup (statOf e.1 e.2) = some d) (hl : ∀ e ∈ ot.flds, ∀ Ca, PySem.W.nsIn K mainGlobals e.1 = some (some (.ref Ca)) → NoAttr K Ca e.2)
    (h : ∀ e ∈ tab, AtTab K mg con fns kws ot e) : Lib K mg (fun f => tab.lookup f) con kws ot := by
  refine ⟨gl, fun g n ks perm hg => hk _ hg, fun C n h => hm (C, n) (PySem.mem_of_lookup h), fun C m h => hs (C, m) h, fun C f h => hl (C, f) h, fun f d hd => ?_⟩
  obtain ⟨S, ps, st, fa, fd, nm, qual, h1, h2, h3, h5, h4⟩ := h (f, d) (PySem.mem_of_lookup hd)
  exact ⟨S, ps, st, fa, fd, nm, qual, h1, h2, h3, h5, fun g n hg => lookup_tab (by rw [← hf, ← h4]; exact hg)⟩
theorem con_at {K : PySem.W.Frag} {x : Str} {v : V} {u : Value} (a : PySem.W.nsIn K mainGlobals x = some (some u)) (r : RelV v u) : ∃ u, PySem.W.nsIn K mainGlobals x = some (some u) ∧ RelV v u := ⟨u, a, r⟩
end Sn
namespace Sn
open PySem PySem.Spec PyProof.Rows L2
/-! ### plain facts about walks -/
theorem keeps_nil (m0 m : Mu) : keeps [] m0 m := fun _ h => by simp at h
theorem keeps_refl (ws : List Nat) (m : Mu) : keeps ws m m := fun _ _ => rfl
/-- a walk that changes nothing and gives a list for each item -/
theorem collect_flat {f : PV → Mu → Res (List PV)} {ok : Mu → Prop} {m : Mu} {g : PV → List PV} (hm : ok m) : ∀ {xs : List PV}, (∀ x ∈ xs, f x m = .ok (g x) m) → collect f ok xs m = .ok (xs.flatMap g) m
  | [], _ => by rw [collect_nil hm]; rfl
  | x :: xs, h => by
    rw [collect_cons hm, h x (by simp)]
    simp only [ok_bind]
    rw [collect_flat hm fun y hy => h y (by simp [hy])]
    simp [ok_bind]
/-- one value for each item -/
theorem collect_map {f : PV → Mu → Res (List PV)} {ok : Mu → Prop} {m : Mu} {g : PV → PV} (hm : ok m) {xs : List PV} (h : ∀ x ∈ xs, f x m = .ok [g x] m) : collect f ok xs m = .ok (xs.map g) m := by
  rw [collect_flat (g := fun x => [g x]) hm h]
  congr 1
  induction xs with
  | nil => rfl
  | cons x xs ih => simp only [List.flatMap_cons, List.map_cons, List.singleton_append]; rw [ih fun y hy => h y (by simp [hy])]
/-- some of the items -/
theorem collect_filter {f : PV → Mu → Res (List PV)} {ok : Mu → Prop} {m : Mu} {g : PV → PV} {c : PV → Bool} (hm : ok m) {xs : List PV} (h : ∀ x ∈ xs, f x m = .ok (if c x = true then [g x] else []) m) : collect f ok xs m = .ok ((xs.filter c).map g) m := by
  rw [collect_flat (g := fun x => if c x = true then [g x] else []) hm h]
  congr 1
  induction xs with
  | nil => rfl
  | cons x xs ih =>
    simp only [List.flatMap_cons, List.filter_cons]
    rw [ih fun y hy => h y (by simp [hy])]
    split <;> simp
/-- a walk with a state: an invariant of what stands -/
theorem collect_inv {f : PV → Mu → Res (List PV)} {ok : Mu → Prop} {P : Nat → Mu → Prop} (hP : ∀ i m, P i m → ok m) {R : PV → List PV → Prop} : ∀ {xs : List PV} {i : Nat} {m : Mu}, P i m → (∀ x ∈ xs, ∀ i m, P i m → ∃ ys m', f x m = .ok ys m' ∧ R x ys ∧ P (i + 1) m') →
    ∃ yss : List (List PV), ∃ m', collect f ok xs m = .ok yss.flatten m' ∧ P (i + xs.length) m' ∧ yss.length = xs.length ∧ ∀ p ∈ xs.zip yss, R p.1 p.2
  | [], i, m, h, _ => ⟨[], m, by rw [collect_nil (hP i m h)]; rfl, h, rfl, by simp⟩
  | x :: xs, i, m, h, k => by
    obtain ⟨ys, m1, e1, r1, h1⟩ := k x (by simp) i m h
    obtain ⟨yss, m2, e2, h2, l2, r2⟩ := collect_inv (xs := xs) hP h1 (fun y hy => k y (List.mem_cons_of_mem _ hy))
    refine ⟨ys :: yss, m2, ?_, by rw [List.length_cons, show i + (xs.length + 1) = i + 1 + xs.length by omega]; exact h2, by simp [l2], fun p hp => ?_⟩
    · rw [collect_cons (hP i m h), e1]
      simp only [ok_bind]
      rw [e2]
      simp [ok_bind]
    · rcases List.mem_cons.mp hp with rfl | hp
      · exact r1
      · exact r2 p hp
/-- a for loop by an invariant: none of its turns leaves it -/
theorem forL_inv {step : Rho → Mu → SR} {tg : Tg} {ok : Mu → Prop} {P : Nat → Rho → Mu → Prop} (hP : ∀ i ρ m, P i ρ m → ok m) : ∀ {xs : List PV} {i : Nat} {ρ : Rho} {m : Mu}, P i ρ m → (∀ j x, xs[j]? = some x → ∀ ρ m, P (i + j) ρ m → ∃ ρ1 ρ2 m2, bindT tg x ρ = some ρ1 ∧ step ρ1 m = .nx ρ2 m2 ∧ P (i + j + 1) ρ2 m2) →
    ∃ ρ' m', forL step tg ok xs ρ m = .nx ρ' m' ∧ P (i + xs.length) ρ' m'
  | [], i, ρ, m, h, _ => ⟨ρ, m, by simp only [forL, if_pos (hP i ρ m h)], h⟩
  | x :: xs, i, ρ, m, h, k => by
    obtain ⟨ρ1, ρ2, m2, e1, e2, h2⟩ := k 0 x rfl ρ m h
    obtain ⟨ρ', m', e3, h3⟩ := forL_inv (xs := xs) hP (i := i + 1) (ρ := ρ2) (m := m2) h2 fun j y hy ρ m hj => by
      have := k (j + 1) y (by simpa using hy) ρ m (by rw [show i + (j + 1) = i + 1 + j by omega]; exact hj)
      rw [show i + (j + 1) = i + 1 + j by omega] at this
      exact this
    refine ⟨ρ', m', ?_, by rw [List.length_cons, show i + (xs.length + 1) = i + 1 + xs.length by omega]; exact h3⟩
    simp only [forL, if_pos (hP i ρ m h), e1, e2]
    exact e3
/-! ### the evaluator, each construct apart: comprehensions stay folded (ev_comp, ev_dcomp open them) -/
section
variable {Φ : FEnv} {ρ : Rho} {m : Mu} {a b c : Ex} {as : Exs}
theorem ev_nm {i : Nat} : ev Φ (.nm i) ρ m = match ρ[i]? with
    | some (some p) => .ok p m
    | _ => .stuck := by
  unfold ev
  rfl
theorem ev_cst {p : PV} : ev Φ (.cst p) ρ m = .ok p m := by simp only [ev]
theorem ev_pr {o : Pr} : ev Φ (.pr o as) ρ m = (evs Φ as ρ m).bind fun vs m => prR o vs m := by simp only [ev]
theorem ev_and : ev Φ (.and_ a b) ρ m = ((ev Φ a ρ m).bind boolR).bind fun c m => if c = true then ev Φ b ρ m else .ok (.bl false) m := by simp only [ev]
theorem ev_or : ev Φ (.or_ a b) ρ m = ((ev Φ a ρ m).bind boolR).bind fun c m => if c = true then .ok (.bl true) m else ev Φ b ρ m := by simp only [ev]
theorem ev_ite : ev Φ (.ite c a b) ρ m = ((ev Φ c ρ m).bind boolR).bind fun c m => if c = true then ev Φ a ρ m else ev Φ b ρ m := by simp only [ev]
theorem ev_call {f : Str} : ev Φ (.call f as) ρ m = (evs Φ as ρ m).bind fun vs m => Φ f vs m := by simp only [ev]
theorem evs_nil : evs Φ .nil ρ m = .ok [] m := by simp only [evs]
theorem evs_cons {e : Ex} {es : Exs} : evs Φ (.cons false e es) ρ m = (ev Φ e ρ m).bind fun x m => (evs Φ es ρ m).bind fun ys m => .ok (x :: ys) m := by simp only [evs, Bool.false_eq_true, if_false]
end
end Sn
namespace Sn.Lk08
open PySem PySem.Spec PyProof.Rows L2
def topS (i : Nat) : Stmt := PySem.Challenge.pw_startnow_k08_histories_recognized.main.body.getD i (.Pass ⟨0, 0, 0, 0⟩)
def clsB : Stmt → List Stmt
  | .ClassDef _ _ _ b _ _ _ _ _ _ _ => b
  | _ => []
def methS (i j : Nat) : Stmt := (clsB (topS i)).getD j (.Pass ⟨0, 0, 0, 0⟩)
def con : List (Str × PV) := [((PySem.Str.ofString "GO"), .str (PySem.Str.ofString "go")), ((PySem.Str.ofString "LETTERS"), .str (PySem.Str.ofString "abcdefghijklmnopqrstuvwxyz")), ((PySem.Str.ofString "LONGEST_NAME"), .int 8), ((PySem.Str.ofString "PLAIN"), .str (PySem.Str.ofString "")), ((PySem.Str.ofString "NONE"), .str (PySem.Str.ofString "none")), ((PySem.Str.ofString "AT"), .str (PySem.Str.ofString "at ")), ((PySem.Str.ofString "DIGITS"), .str (PySem.Str.ofString "0123456789")), ((PySem.Str.ofString "SAFE"), .str (PySem.Str.ofString "safe")), ((PySem.Str.ofString "LOST"), .str (PySem.Str.ofString "lost")), ((PySem.Str.ofString "START"), .str (PySem.Str.ofString "start"))]
def kws : Kwt := [((PySem.Str.ofString "is_history"), 0, [(PySem.Str.ofString "value"), (PySem.Str.ofString "plan")], [1, 0])]
def fns : List (Str × Nat) := [((PySem.Str.ofString "is_integer"), 1), ((PySem.Str.ofString "is_at_least"), 2), ((PySem.Str.ofString "is_name"), 1), ((PySem.Str.ofString "is_ascending"), 1), ((PySem.Str.ofString "is_point"), 2), ((PySem.Str.ofString "is_bound"), 2), ((PySem.Str.ofString "is_task"), 2), ((PySem.Str.ofString "are_events"), 1), ((PySem.Str.ofString "are_bounds"), 2), ((PySem.Str.ofString "begins_of"), 1), ((PySem.Str.ofString "is_rooted"), 1), ((PySem.Str.ofString "are_tasks"), 2), ((PySem.Str.ofString "is_plan"), 1), ((PySem.Str.ofString "check_plan"), 1), ((PySem.Str.ofString "moment_of"), 3), ((PySem.Str.ofString "are_moments"), 3), ((PySem.Str.ofString "is_history_of"), 2), ((PySem.Str.ofString "is_history"), 2), ((PySem.Str.ofString "_law_sack"), 2), ((PySem.Str.ofString "_law_dip"), 2), ((PySem.Str.ofString "_law_twin"), 2), ((PySem.Str.ofString "_law_jobs"), 4), ((PySem.Str.ofString "_law_worth"), 3), ((PySem.Str.ofString "_law_little"), 3), ((PySem.Str.ofString "_law_own"), 1), ((PySem.Str.ofString "_law_put"), 4), ((PySem.Str.ofString "_law_starts"), 3), ((PySem.Str.ofString "_law_stops"), 3), ((PySem.Str.ofString "_law_nothing"), 1), ((PySem.Str.ofString "_law_walked"), 3), ((PySem.Str.ofString "_law_is_whole"), 2), ((PySem.Str.ofString "_law_is_past"), 2), ((PySem.Str.ofString "_law_bent_part"), 2), ((PySem.Str.ofString "_law_titles"), 2), ((PySem.Str.ofString "_law_few_limits"), 4), ((PySem.Str.ofString "_law_long_jobs"), 3), ((PySem.Str.ofString "_law_great"), 3), ((PySem.Str.ofString "law"), 1)]
def ot : Oth := ⟨[((PySem.Str.ofString "Live"), 1)], [((PySem.Str.ofString "Live"), (PySem.Str.ofString "is_valid"))], [((PySem.Str.ofString "Live"), (PySem.Str.ofString "held_plan")), ((PySem.Str.ofString "Live"), (PySem.Str.ofString "state")), ((PySem.Str.ofString "Live"), (PySem.Str.ofString "calls"))]⟩
def S_is_integer : Stc := ⟨[(PySem.Str.ofString "value")], defScope (topS 11), ((defScope (topS 11)).names.map (·.1)), [], [], con, fns, kws, ot.mks, ot.sms, ot.flds⟩
def b_is_integer : Stms := trSs S_is_integer (defBody (topS 11))
def S_is_at_least : Stc := ⟨[(PySem.Str.ofString "value"), (PySem.Str.ofString "least")], defScope (topS 12), ((defScope (topS 12)).names.map (·.1)), [], [], con, fns, kws, ot.mks, ot.sms, ot.flds⟩
def b_is_at_least : Stms := trSs S_is_at_least (defBody (topS 12))
def S_is_name : Stc := ⟨[(PySem.Str.ofString "value"), (PySem.Str.ofString "letter")], defScope (topS 13), ((defScope (topS 13)).names.map (·.1)), [], [], con, fns, kws, ot.mks, ot.sms, ot.flds⟩
def b_is_name : Stms := trSs S_is_name (defBody (topS 13))
def S_is_ascending : Stc := ⟨[(PySem.Str.ofString "rows"), (PySem.Str.ofString "row"), (PySem.Str.ofString "after")], defScope (topS 14), ((defScope (topS 14)).names.map (·.1)), [], [], con, fns, kws, ot.mks, ot.sms, ot.flds⟩
def b_is_ascending : Stms := trSs S_is_ascending (defBody (topS 14))
def S_is_point : Stc := ⟨[(PySem.Str.ofString "events"), (PySem.Str.ofString "value")], defScope (topS 15), ((defScope (topS 15)).names.map (·.1)), [], [], con, fns, kws, ot.mks, ot.sms, ot.flds⟩
def b_is_point : Stms := trSs S_is_point (defBody (topS 15))
def S_is_bound : Stc := ⟨[(PySem.Str.ofString "events"), (PySem.Str.ofString "value")], defScope (topS 16), ((defScope (topS 16)).names.map (·.1)), [], [], con, fns, kws, ot.mks, ot.sms, ot.flds⟩
def b_is_bound : Stms := trSs S_is_bound (defBody (topS 16))
def S_is_task : Stc := ⟨[(PySem.Str.ofString "events"), (PySem.Str.ofString "value"), (PySem.Str.ofString "begin"), (PySem.Str.ofString "end"), (PySem.Str.ofString "least"), (PySem.Str.ofString "greatest")], defScope (topS 17), ((defScope (topS 17)).names.map (·.1)), [], [], con, fns, kws, ot.mks, ot.sms, ot.flds⟩
def b_is_task : Stms := trSs S_is_task (defBody (topS 17))
def S_are_events : Stc := ⟨[(PySem.Str.ofString "value"), (PySem.Str.ofString "name")], defScope (topS 18), ((defScope (topS 18)).names.map (·.1)), [], [], con, fns, kws, ot.mks, ot.sms, ot.flds⟩
def b_are_events : Stms := trSs S_are_events (defBody (topS 18))
def S_are_bounds : Stc := ⟨[(PySem.Str.ofString "events"), (PySem.Str.ofString "value"), (PySem.Str.ofString "bound"), (PySem.Str.ofString "pairs")], defScope (topS 19), ((defScope (topS 19)).names.map (·.1)), [], [], con, fns, kws, ot.mks, ot.sms, ot.flds⟩
def b_are_bounds : Stms := trSs S_are_bounds (defBody (topS 19))
def S_begins_of : Stc := ⟨[(PySem.Str.ofString "tasks"), (PySem.Str.ofString "begin"), (PySem.Str.ofString "end"), (PySem.Str.ofString "least"), (PySem.Str.ofString "greatest")], defScope (topS 20), ((defScope (topS 20)).names.map (·.1)), [], [], con, fns, kws, ot.mks, ot.sms, ot.flds⟩
def b_begins_of : Stms := trSs S_begins_of (defBody (topS 20))
def S_is_rooted : Stc := ⟨[(PySem.Str.ofString "tasks"), (PySem.Str.ofString "begins"), (PySem.Str.ofString "end"), (PySem.Str.ofString "event"), (PySem.Str.ofString "steps")], defScope (topS 21), ((defScope (topS 21)).names.map (·.1)), [], [], con, fns, kws, ot.mks, ot.sms, ot.flds⟩
def b_is_rooted : Stms := trSs S_is_rooted (defBody (topS 21))
def S_are_tasks : Stc := ⟨[(PySem.Str.ofString "events"), (PySem.Str.ofString "value"), (PySem.Str.ofString "task")], defScope (topS 22), ((defScope (topS 22)).names.map (·.1)), [], [], con, fns, kws, ot.mks, ot.sms, ot.flds⟩
def b_are_tasks : Stms := trSs S_are_tasks (defBody (topS 22))
def S_is_plan : Stc := ⟨[(PySem.Str.ofString "value"), (PySem.Str.ofString "latest"), (PySem.Str.ofString "events"), (PySem.Str.ofString "bounds"), (PySem.Str.ofString "tasks")], defScope (topS 23), ((defScope (topS 23)).names.map (·.1)), [], [], con, fns, kws, ot.mks, ot.sms, ot.flds⟩
def b_is_plan : Stms := trSs S_is_plan (defBody (topS 23))
def S_check_plan : Stc := ⟨[(PySem.Str.ofString "plan")], defScope (topS 24), ((defScope (topS 24)).names.map (·.1)), [], [], con, fns, kws, ot.mks, ot.sms, ot.flds⟩
def b_check_plan : Stms := trSs S_check_plan (defBody (topS 24))
def S_moment_of : Stc := ⟨[(PySem.Str.ofString "plan"), (PySem.Str.ofString "moments"), (PySem.Str.ofString "point")], defScope (topS 26), ((defScope (topS 26)).names.map (·.1)), [], [], con, fns, kws, ot.mks, ot.sms, ot.flds⟩
def b_moment_of : Stms := trSs S_moment_of (defBody (topS 26))
def S_are_moments : Stc := ⟨[(PySem.Str.ofString "plan"), (PySem.Str.ofString "now"), (PySem.Str.ofString "value"), (PySem.Str.ofString "at")], defScope (topS 40), ((defScope (topS 40)).names.map (·.1)), [], [], con, fns, kws, ot.mks, ot.sms, ot.flds⟩
def b_are_moments : Stms := trSs S_are_moments (defBody (topS 40))
def S_is_history_of : Stc := ⟨[(PySem.Str.ofString "plan"), (PySem.Str.ofString "value"), (PySem.Str.ofString "now"), (PySem.Str.ofString "moments"), (PySem.Str.ofString "begin"), (PySem.Str.ofString "end"), (PySem.Str.ofString "least"), (PySem.Str.ofString "greatest"), (PySem.Str.ofString "first"), (PySem.Str.ofString "last")], defScope (topS 41), ((defScope (topS 41)).names.map (·.1)), [], [], con, fns, kws, ot.mks, ot.sms, ot.flds⟩
def b_is_history_of : Stms := trSs S_is_history_of (defBody (topS 41))
def S_is_history : Stc := ⟨[(PySem.Str.ofString "plan"), (PySem.Str.ofString "value")], defScope (topS 47), ((defScope (topS 47)).names.map (·.1)), [], [], con, fns, kws, ot.mks, ot.sms, ot.flds⟩
def b_is_history : Stms := trSs S_is_history (defBody (topS 47))
def S__law_sack : Stc := ⟨[(PySem.Str.ofString "script"), (PySem.Str.ofString "at"), (PySem.Str.ofString "cell")], defScope (topS 67), ((defScope (topS 67)).names.map (·.1)), [⟨353, 11, 353, 92⟩], [], con, fns, kws, ot.mks, ot.sms, ot.flds⟩
def b__law_sack : Stms := trSs S__law_sack (defBody (topS 67))
def S__law_dip : Stc := ⟨[(PySem.Str.ofString "sack"), (PySem.Str.ofString "below"), (PySem.Str.ofString "digit"), (PySem.Str.ofString "stir")], defScope (topS 68), ((defScope (topS 68)).names.map (·.1)), [], [], con, fns, kws, ot.mks, ot.sms, ot.flds⟩
def b__law_dip : Stms := trSs S__law_dip (defBody (topS 68))
def S__law_twin : Stc := ⟨[(PySem.Str.ofString "found"), (PySem.Str.ofString "due"), (PySem.Str.ofString "k")], defScope (topS 69), ((defScope (topS 69)).names.map (·.1)), [], [], con, fns, kws, ot.mks, ot.sms, ot.flds⟩
def b__law_twin : Stms := trSs S__law_twin (defBody (topS 69))
def S__law_jobs : Stc := ⟨[(PySem.Str.ofString "sack"), (PySem.Str.ofString "points"), (PySem.Str.ofString "many_here"), (PySem.Str.ofString "great"), (PySem.Str.ofString "found"), (PySem.Str.ofString "spare"), (PySem.Str.ofString "k"), (PySem.Str.ofString "stop"), (PySem.Str.ofString "start"), (PySem.Str.ofString "low"), (PySem.Str.ofString "name")], defScope (topS 70), ((defScope (topS 70)).names.map (·.1)), [⟨376, 20, 376, 22⟩], [], con, fns, kws, ot.mks, ot.sms, ot.flds⟩
def b__law_jobs : Stms := trSs S__law_jobs (defBody (topS 70))
def S__law_worth : Stc := ⟨[(PySem.Str.ofString "plan_here"), (PySem.Str.ofString "moments_here"), (PySem.Str.ofString "point")], defScope (topS 71), ((defScope (topS 71)).names.map (·.1)), [], [], con, fns, kws, ot.mks, ot.sms, ot.flds⟩
def b__law_worth : Stms := trSs S__law_worth (defBody (topS 71))
def S__law_little : Stc := ⟨[(PySem.Str.ofString "sack"), (PySem.Str.ofString "many_here"), (PySem.Str.ofString "great"), (PySem.Str.ofString "points"), (PySem.Str.ofString "jobs")], defScope (topS 72), ((defScope (topS 72)).names.map (·.1)), [], [], con, fns, kws, ot.mks, ot.sms, ot.flds⟩
def b__law_little : Stms := trSs S__law_little (defBody (topS 72))
def S__law_own : Stc := ⟨[(PySem.Str.ofString "plan_here"), (PySem.Str.ofString "ends"), (PySem.Str.ofString "job"), (PySem.Str.ofString "name")], defScope (topS 73), ((defScope (topS 73)).names.map (·.1)), [], [], con, fns, kws, ot.mks, ot.sms, ot.flds⟩
def b__law_own : Stms := trSs S__law_own (defBody (topS 73))
def S__law_put : Stc := ⟨[(PySem.Str.ofString "plan_here"), (PySem.Str.ofString "moments_here"), (PySem.Str.ofString "point"), (PySem.Str.ofString "moment"), (PySem.Str.ofString "k")], defScope (topS 74), ((defScope (topS 74)).names.map (·.1)), [], [], con, fns, kws, ot.mks, ot.sms, ot.flds⟩
def b__law_put : Stms := trSs S__law_put (defBody (topS 74))
def S__law_starts : Stc := ⟨[(PySem.Str.ofString "plan_here"), (PySem.Str.ofString "now"), (PySem.Str.ofString "moments_here"), (PySem.Str.ofString "found"), (PySem.Str.ofString "name"), (PySem.Str.ofString "some")], defScope (topS 75), ((defScope (topS 75)).names.map (·.1)), [], [], con, fns, kws, ot.mks, ot.sms, ot.flds⟩
def b__law_starts : Stms := trSs S__law_starts (defBody (topS 75))
def S__law_stops : Stc := ⟨[(PySem.Str.ofString "plan_here"), (PySem.Str.ofString "now"), (PySem.Str.ofString "moments_here"), (PySem.Str.ofString "found"), (PySem.Str.ofString "start"), (PySem.Str.ofString "stop"), (PySem.Str.ofString "low"), (PySem.Str.ofString "high"), (PySem.Str.ofString "first"), (PySem.Str.ofString "more"), (PySem.Str.ofString "some")], defScope (topS 76), ((defScope (topS 76)).names.map (·.1)), [], [], con, fns, kws, ot.mks, ot.sms, ot.flds⟩
def b__law_stops : Stms := trSs S__law_stops (defBody (topS 76))
def S__law_nothing : Stc := ⟨[(PySem.Str.ofString "plan_here"), (PySem.Str.ofString "name")], defScope (topS 77), ((defScope (topS 77)).names.map (·.1)), [], [], con, fns, kws, ot.mks, ot.sms, ot.flds⟩
def b__law_nothing : Stms := trSs S__law_nothing (defBody (topS 77))
def S__law_walked : Stc := ⟨[(PySem.Str.ofString "sack"), (PySem.Str.ofString "plan_here"), (PySem.Str.ofString "far"), (PySem.Str.ofString "moments_here"), (PySem.Str.ofString "now"), (PySem.Str.ofString "last"), (PySem.Str.ofString "turn"), (PySem.Str.ofString "some")], defScope (topS 78), ((defScope (topS 78)).names.map (·.1)), [], [], con, fns, kws, ot.mks, ot.sms, ot.flds⟩
def b__law_walked : Stms := trSs S__law_walked (defBody (topS 78))
def S__law_is_whole : Stc := ⟨[(PySem.Str.ofString "thing"), (PySem.Str.ofString "least")], defScope (topS 79), ((defScope (topS 79)).names.map (·.1)), [], [], con, fns, kws, ot.mks, ot.sms, ot.flds⟩
def b__law_is_whole : Stms := trSs S__law_is_whole (defBody (topS 79))
def S__law_is_past : Stc := ⟨[(PySem.Str.ofString "plan_here"), (PySem.Str.ofString "thing"), (PySem.Str.ofString "now_here"), (PySem.Str.ofString "moments_here"), (PySem.Str.ofString "at"), (PySem.Str.ofString "start"), (PySem.Str.ofString "stop"), (PySem.Str.ofString "low"), (PySem.Str.ofString "high"), (PySem.Str.ofString "first"), (PySem.Str.ofString "last")], defScope (topS 80), ((defScope (topS 80)).names.map (·.1)), [], [], con, fns, kws, ot.mks, ot.sms, ot.flds⟩
def b__law_is_past : Stms := trSs S__law_is_past (defBody (topS 80))
def S__law_bent_part : Stc := ⟨[(PySem.Str.ofString "sack"), (PySem.Str.ofString "thing"), (PySem.Str.ofString "now"), (PySem.Str.ofString "moments_here"), (PySem.Str.ofString "k"), (PySem.Str.ofString "odd"), (PySem.Str.ofString "some"), (PySem.Str.ofString "turn"), (PySem.Str.ofString "later")], defScope (topS 81), ((defScope (topS 81)).names.map (·.1)), [⟨446, 45, 446, 47⟩, ⟨451, 27, 451, 29⟩], [], con, fns, kws, ot.mks, ot.sms, ot.flds⟩
def b__law_bent_part : Stms := trSs S__law_bent_part (defBody (topS 81))
def S__law_titles : Stc := ⟨[(PySem.Str.ofString "sack"), (PySem.Str.ofString "many_here"), (PySem.Str.ofString "letters"), (PySem.Str.ofString "found"), (PySem.Str.ofString "spot"), (PySem.Str.ofString "first"), (PySem.Str.ofString "turn"), (PySem.Str.ofString "same"), (PySem.Str.ofString "is_same"), (PySem.Str.ofString "k"), (PySem.Str.ofString "name"), (PySem.Str.ofString "size"), (PySem.Str.ofString "rest")], defScope (topS 82), ((defScope (topS 82)).names.map (·.1)), [⟨454, 52, 454, 54⟩], [], con, fns, kws, ot.mks, ot.sms, ot.flds⟩
def b__law_titles : Stms := trSs S__law_titles (defBody (topS 82))
def S__law_few_limits : Stc := ⟨[(PySem.Str.ofString "sack"), (PySem.Str.ofString "points"), (PySem.Str.ofString "many_here"), (PySem.Str.ofString "great"), (PySem.Str.ofString "known"), (PySem.Str.ofString "spots"), (PySem.Str.ofString "k"), (PySem.Str.ofString "left"), (PySem.Str.ofString "right"), (PySem.Str.ofString "tops"), (PySem.Str.ofString "top"), (PySem.Str.ofString "pair")], defScope (topS 83), ((defScope (topS 83)).names.map (·.1)), [], [⟨470, 20, 470, 22⟩], con, fns, kws, ot.mks, ot.sms, ot.flds⟩
def b__law_few_limits : Stms := trSs S__law_few_limits (defBody (topS 83))
def S__law_long_jobs : Stc := ⟨[(PySem.Str.ofString "sack"), (PySem.Str.ofString "points"), (PySem.Str.ofString "many_here"), (PySem.Str.ofString "found"), (PySem.Str.ofString "start"), (PySem.Str.ofString "stop"), (PySem.Str.ofString "low"), (PySem.Str.ofString "high")], defScope (topS 84), ((defScope (topS 84)).names.map (·.1)), [⟨481, 12, 481, 14⟩], [], con, fns, kws, ot.mks, ot.sms, ot.flds⟩
def b__law_long_jobs : Stms := trSs S__law_long_jobs (defBody (topS 84))
def S__law_great : Stc := ⟨[(PySem.Str.ofString "sack"), (PySem.Str.ofString "many_here"), (PySem.Str.ofString "great"), (PySem.Str.ofString "points"), (PySem.Str.ofString "size"), (PySem.Str.ofString "far"), (PySem.Str.ofString "jobs"), (PySem.Str.ofString "limits_here")], defScope (topS 85), ((defScope (topS 85)).names.map (·.1)), [], [], con, fns, kws, ot.mks, ot.sms, ot.flds⟩
def b__law_great : Stms := trSs S__law_great (defBody (topS 85))
def S_law : Stc := ⟨[(PySem.Str.ofString "script"), (PySem.Str.ofString "at"), (PySem.Str.ofString "sack"), (PySem.Str.ofString "plan_here"), (PySem.Str.ofString "turn"), (PySem.Str.ofString "thing"), (PySem.Str.ofString "due"), (PySem.Str.ofString "one_plan")], defScope (topS 86), ((defScope (topS 86)).names.map (·.1)), [], [], con, fns, kws, ot.mks, ot.sms, ot.flds⟩
def b_law : Stms := trSs S_law (defBody (topS 86))
def S_mk_Live : Stc := ⟨[(PySem.Str.ofString "self"), (PySem.Str.ofString "plan")], defScope (methS 65 1), ((defScope (methS 65 1)).names.map (·.1)), [], [], con, fns, kws, ot.mks, ot.sms, ot.flds⟩
def b_mk_Live : Stms := trSs S_mk_Live (defBody (methS 65 1))
def S_sm_Live_is_valid : Stc := ⟨[(PySem.Str.ofString "value")], defScope (methS 65 2), ((defScope (methS 65 2)).names.map (·.1)), [], [], con, fns, kws, ot.mks, ot.sms, ot.flds⟩
def b_sm_Live_is_valid : Stms := trSs S_sm_Live_is_valid (defBody (methS 65 2))
end Sn.Lk08
set_option maxHeartbeats 2000000
namespace Sn.Lk08
open PySem PySem.Spec PyProof.Rows L2
def D_is_integer : Dfn := ⟨false, 1, 1, b_is_integer⟩
def D_is_at_least : Dfn := ⟨false, 2, 2, b_is_at_least⟩
def D_is_name : Dfn := ⟨false, 1, 2, b_is_name⟩
def D_is_ascending : Dfn := ⟨false, 1, 3, b_is_ascending⟩
def D_is_point : Dfn := ⟨false, 2, 2, b_is_point⟩
def D_is_bound : Dfn := ⟨false, 2, 2, b_is_bound⟩
def D_is_task : Dfn := ⟨false, 2, 6, b_is_task⟩
def D_are_events : Dfn := ⟨false, 1, 2, b_are_events⟩
def D_are_bounds : Dfn := ⟨false, 2, 4, b_are_bounds⟩
def D_begins_of : Dfn := ⟨false, 1, 5, b_begins_of⟩
def D_is_rooted : Dfn := ⟨false, 1, 5, b_is_rooted⟩
def D_are_tasks : Dfn := ⟨false, 2, 3, b_are_tasks⟩
def D_is_plan : Dfn := ⟨false, 1, 5, b_is_plan⟩
def D_check_plan : Dfn := ⟨false, 1, 1, b_check_plan⟩
def D_moment_of : Dfn := ⟨false, 3, 3, b_moment_of⟩
def D_are_moments : Dfn := ⟨false, 3, 4, b_are_moments⟩
def D_is_history_of : Dfn := ⟨false, 2, 10, b_is_history_of⟩
def D_is_history : Dfn := ⟨false, 2, 2, b_is_history⟩
def D__law_sack : Dfn := ⟨true, 2, 3, b__law_sack⟩
def D__law_dip : Dfn := ⟨false, 2, 4, b__law_dip⟩
def D__law_twin : Dfn := ⟨false, 2, 3, b__law_twin⟩
def D__law_jobs : Dfn := ⟨false, 4, 11, b__law_jobs⟩
def D__law_worth : Dfn := ⟨false, 3, 3, b__law_worth⟩
def D__law_little : Dfn := ⟨false, 3, 5, b__law_little⟩
def D__law_own : Dfn := ⟨false, 1, 4, b__law_own⟩
def D__law_put : Dfn := ⟨false, 4, 5, b__law_put⟩
def D__law_starts : Dfn := ⟨false, 3, 6, b__law_starts⟩
def D__law_stops : Dfn := ⟨false, 3, 11, b__law_stops⟩
def D__law_nothing : Dfn := ⟨false, 1, 2, b__law_nothing⟩
def D__law_walked : Dfn := ⟨false, 3, 8, b__law_walked⟩
def D__law_is_whole : Dfn := ⟨false, 2, 2, b__law_is_whole⟩
def D__law_is_past : Dfn := ⟨false, 2, 11, b__law_is_past⟩
def D__law_bent_part : Dfn := ⟨false, 2, 9, b__law_bent_part⟩
def D__law_titles : Dfn := ⟨false, 2, 13, b__law_titles⟩
def D__law_few_limits : Dfn := ⟨false, 4, 12, b__law_few_limits⟩
def D__law_long_jobs : Dfn := ⟨false, 3, 8, b__law_long_jobs⟩
def D__law_great : Dfn := ⟨false, 3, 8, b__law_great⟩
def D_law : Dfn := ⟨false, 1, 8, b_law⟩
def D_mk_Live : Dfn := ⟨false, 2, 2, b_mk_Live⟩
def D_sm_Live_is_valid : Dfn := ⟨false, 1, 1, b_sm_Live_is_valid⟩
def tab : List (Str × Dfn) := [((PySem.Str.ofString "is_integer"), D_is_integer), ((PySem.Str.ofString "is_at_least"), D_is_at_least), ((PySem.Str.ofString "is_name"), D_is_name), ((PySem.Str.ofString "is_ascending"), D_is_ascending), ((PySem.Str.ofString "is_point"), D_is_point), ((PySem.Str.ofString "is_bound"), D_is_bound), ((PySem.Str.ofString "is_task"), D_is_task), ((PySem.Str.ofString "are_events"), D_are_events), ((PySem.Str.ofString "are_bounds"), D_are_bounds), ((PySem.Str.ofString "begins_of"), D_begins_of), ((PySem.Str.ofString "is_rooted"), D_is_rooted), ((PySem.Str.ofString "are_tasks"), D_are_tasks), ((PySem.Str.ofString "is_plan"), D_is_plan), ((PySem.Str.ofString "check_plan"), D_check_plan), ((PySem.Str.ofString "moment_of"), D_moment_of), ((PySem.Str.ofString "are_moments"), D_are_moments), ((PySem.Str.ofString "is_history_of"), D_is_history_of), ((PySem.Str.ofString "is_history"), D_is_history), ((PySem.Str.ofString "_law_sack"), D__law_sack), ((PySem.Str.ofString "_law_dip"), D__law_dip), ((PySem.Str.ofString "_law_twin"), D__law_twin), ((PySem.Str.ofString "_law_jobs"), D__law_jobs), ((PySem.Str.ofString "_law_worth"), D__law_worth), ((PySem.Str.ofString "_law_little"), D__law_little), ((PySem.Str.ofString "_law_own"), D__law_own), ((PySem.Str.ofString "_law_put"), D__law_put), ((PySem.Str.ofString "_law_starts"), D__law_starts), ((PySem.Str.ofString "_law_stops"), D__law_stops), ((PySem.Str.ofString "_law_nothing"), D__law_nothing), ((PySem.Str.ofString "_law_walked"), D__law_walked), ((PySem.Str.ofString "_law_is_whole"), D__law_is_whole), ((PySem.Str.ofString "_law_is_past"), D__law_is_past), ((PySem.Str.ofString "_law_bent_part"), D__law_bent_part), ((PySem.Str.ofString "_law_titles"), D__law_titles), ((PySem.Str.ofString "_law_few_limits"), D__law_few_limits), ((PySem.Str.ofString "_law_long_jobs"), D__law_long_jobs), ((PySem.Str.ofString "_law_great"), D__law_great), ((PySem.Str.ofString "law"), D_law), ((PySem.Str.ofString "Live.__init__"), D_mk_Live), ((PySem.Str.ofString "Live.is_valid"), D_sm_Live_is_valid)]
abbrev T : Tbl := fun f => tab.lookup f
abbrev DA (K : PySem.W.Frag) (f : Str) (i : Nat) : Prop := ∃ fa fd, Fun K f f (topS i) fa fd ∧ PySem.W.nsIn K mainGlobals f = some (some (.ref fa))
abbrev MA (K : PySem.W.Frag) (C q : Str) (st : Stmt) : Prop := ∃ Ca fa fd, Fun K (PySem.Str.ofString "__init__") q st fa fd ∧ PySem.W.nsIn K mainGlobals C = some (some (.ref Ca)) ∧ ObC K Ca ∧ Mk K Ca fa
abbrev SA (K : PySem.W.Frag) (C m q : Str) (st : Stmt) : Prop := ∃ Ca fa fd, Fun K m q st fa fd ∧ PySem.W.nsIn K mainGlobals C = some (some (.ref Ca)) ∧ SMet K Ca m fa
theorem sc_is_integer : FnScope S_is_integer.N [(PySem.Str.ofString "value")] (defScope (topS 11)) := ⟨rfl, rfl, rfl, by decide +kernel, rfl, by decide +kernel, by decide +kernel⟩
theorem kb_is_integer {K : PySem.W.Frag} {fa : Addr} {fd : FuncData} (F : Fun K (PySem.Str.ofString "is_integer") (PySem.Str.ofString "is_integer") (topS 11) fa fd) : ∀ e ∈ kws, e.1 = (PySem.Str.ofString "is_integer") → KBinds K fd [(PySem.Str.ofString "value")] e.2.2.1 (permW e.2.1 e.2.2.1.length e.2.2.2) (permW e.2.1 e.2.2.1.length e.2.2.2) := by
  unfold kws
  simp only [List.forall_mem_cons, List.not_mem_nil, false_implies, implies_true, and_true]
  exact fun h => absurd h (by decide +kernel)
theorem def_is_integer {K : PySem.W.Frag} {mg : Str → Option Value} {h : Heap} (X : K.In h) (G : h.Ns mainGlobals mg) {fa : Addr} {fd : FuncData} (F : Fun K (PySem.Str.ofString "is_integer") (PySem.Str.ofString "is_integer") (topS 11) fa fd) (a : PySem.W.nsIn K mainGlobals (PySem.Str.ofString "is_integer") = some (some (.ref fa))) : DefOk K mg kws ot S_is_integer (PySem.Str.ofString "is_integer") D_is_integer [(PySem.Str.ofString "value")] (topS 11) fa fd (PySem.Str.ofString "is_integer") (PySem.Str.ofString "is_integer") :=
  ⟨F, fun _ => PySem.W.mg_of X G a, F.binds (fun _ _ _ _ _ _ us hl => match us, hl with | [_], _ => rfl), sc_is_integer, rfl, rfl, rfl, rfl, fun n ks perm hm => kb_is_integer F _ hm rfl, fun C n hl he => by
    have key : ∀ e ∈ ot.mks, (PySem.Str.ofString "is_integer") = initOf e.1 → ∃ Ca, mg e.1 = some (.ref Ca) ∧ PySem.W.nsIn K mainGlobals e.1 = some (some (.ref Ca)) ∧ ObC K Ca ∧ Mk K Ca fa := by
      unfold ot
      simp only [List.forall_mem_cons, List.not_mem_nil, false_implies, implies_true, and_true]
      exact fun h => absurd h (by decide +kernel)
    exact key (C, n) (PySem.mem_of_lookup hl) he, fun C m hm he => by
    have key : ∀ e ∈ ot.sms, (PySem.Str.ofString "is_integer") = statOf e.1 e.2 → ∃ Ca, mg e.1 = some (.ref Ca) ∧ SMet K Ca e.2 fa := by
      unfold ot
      simp only [List.forall_mem_cons, List.not_mem_nil, false_implies, implies_true, and_true]
      exact fun h => absurd h (by decide +kernel)
    exact key (C, m) hm he⟩
theorem ok_is_integer {K : PySem.W.Frag} {mg : Str → Option Value} {h : Heap} (X : K.In h) (G : h.Ns mainGlobals mg) (D : DA K (PySem.Str.ofString "is_integer") 11) : AtTab K mg con fns kws ot ((PySem.Str.ofString "is_integer"), D_is_integer) := by
  obtain ⟨fa, fd, F, a⟩ := D
  exact ⟨S_is_integer, [(PySem.Str.ofString "value")], (topS 11), fa, fd, (PySem.Str.ofString "is_integer"), (PySem.Str.ofString "is_integer"), def_is_integer X G F a, rfl, rfl, ⟨rfl, rfl, rfl⟩, rfl⟩
theorem sc_is_at_least : FnScope S_is_at_least.N [(PySem.Str.ofString "value"), (PySem.Str.ofString "least")] (defScope (topS 12)) := ⟨rfl, rfl, rfl, by decide +kernel, rfl, by decide +kernel, by decide +kernel⟩
theorem kb_is_at_least {K : PySem.W.Frag} {fa : Addr} {fd : FuncData} (F : Fun K (PySem.Str.ofString "is_at_least") (PySem.Str.ofString "is_at_least") (topS 12) fa fd) : ∀ e ∈ kws, e.1 = (PySem.Str.ofString "is_at_least") → KBinds K fd [(PySem.Str.ofString "value"), (PySem.Str.ofString "least")] e.2.2.1 (permW e.2.1 e.2.2.1.length e.2.2.2) (permW e.2.1 e.2.2.1.length e.2.2.2) := by
  unfold kws
  simp only [List.forall_mem_cons, List.not_mem_nil, false_implies, implies_true, and_true]
  exact fun h => absurd h (by decide +kernel)
theorem def_is_at_least {K : PySem.W.Frag} {mg : Str → Option Value} {h : Heap} (X : K.In h) (G : h.Ns mainGlobals mg) {fa : Addr} {fd : FuncData} (F : Fun K (PySem.Str.ofString "is_at_least") (PySem.Str.ofString "is_at_least") (topS 12) fa fd) (a : PySem.W.nsIn K mainGlobals (PySem.Str.ofString "is_at_least") = some (some (.ref fa))) : DefOk K mg kws ot S_is_at_least (PySem.Str.ofString "is_at_least") D_is_at_least [(PySem.Str.ofString "value"), (PySem.Str.ofString "least")] (topS 12) fa fd (PySem.Str.ofString "is_at_least") (PySem.Str.ofString "is_at_least") :=
  ⟨F, fun _ => PySem.W.mg_of X G a, F.binds (fun _ _ _ _ _ _ us hl => match us, hl with | [_, _], _ => rfl), sc_is_at_least, rfl, rfl, rfl, rfl, fun n ks perm hm => kb_is_at_least F _ hm rfl, fun C n hl he => by
    have key : ∀ e ∈ ot.mks, (PySem.Str.ofString "is_at_least") = initOf e.1 → ∃ Ca, mg e.1 = some (.ref Ca) ∧ PySem.W.nsIn K mainGlobals e.1 = some (some (.ref Ca)) ∧ ObC K Ca ∧ Mk K Ca fa := by
      unfold ot
      simp only [List.forall_mem_cons, List.not_mem_nil, false_implies, implies_true, and_true]
      exact fun h => absurd h (by decide +kernel)
    exact key (C, n) (PySem.mem_of_lookup hl) he, fun C m hm he => by
    have key : ∀ e ∈ ot.sms, (PySem.Str.ofString "is_at_least") = statOf e.1 e.2 → ∃ Ca, mg e.1 = some (.ref Ca) ∧ SMet K Ca e.2 fa := by
      unfold ot
      simp only [List.forall_mem_cons, List.not_mem_nil, false_implies, implies_true, and_true]
      exact fun h => absurd h (by decide +kernel)
    exact key (C, m) hm he⟩
theorem ok_is_at_least {K : PySem.W.Frag} {mg : Str → Option Value} {h : Heap} (X : K.In h) (G : h.Ns mainGlobals mg) (D : DA K (PySem.Str.ofString "is_at_least") 12) : AtTab K mg con fns kws ot ((PySem.Str.ofString "is_at_least"), D_is_at_least) := by
  obtain ⟨fa, fd, F, a⟩ := D
  exact ⟨S_is_at_least, [(PySem.Str.ofString "value"), (PySem.Str.ofString "least")], (topS 12), fa, fd, (PySem.Str.ofString "is_at_least"), (PySem.Str.ofString "is_at_least"), def_is_at_least X G F a, rfl, rfl, ⟨rfl, rfl, rfl⟩, rfl⟩
theorem sc_is_name : FnScope S_is_name.N [(PySem.Str.ofString "value")] (defScope (topS 13)) := ⟨rfl, rfl, rfl, by decide +kernel, rfl, by decide +kernel, by decide +kernel⟩
theorem kb_is_name {K : PySem.W.Frag} {fa : Addr} {fd : FuncData} (F : Fun K (PySem.Str.ofString "is_name") (PySem.Str.ofString "is_name") (topS 13) fa fd) : ∀ e ∈ kws, e.1 = (PySem.Str.ofString "is_name") → KBinds K fd [(PySem.Str.ofString "value")] e.2.2.1 (permW e.2.1 e.2.2.1.length e.2.2.2) (permW e.2.1 e.2.2.1.length e.2.2.2) := by
  unfold kws
  simp only [List.forall_mem_cons, List.not_mem_nil, false_implies, implies_true, and_true]
  exact fun h => absurd h (by decide +kernel)
theorem def_is_name {K : PySem.W.Frag} {mg : Str → Option Value} {h : Heap} (X : K.In h) (G : h.Ns mainGlobals mg) {fa : Addr} {fd : FuncData} (F : Fun K (PySem.Str.ofString "is_name") (PySem.Str.ofString "is_name") (topS 13) fa fd) (a : PySem.W.nsIn K mainGlobals (PySem.Str.ofString "is_name") = some (some (.ref fa))) : DefOk K mg kws ot S_is_name (PySem.Str.ofString "is_name") D_is_name [(PySem.Str.ofString "value")] (topS 13) fa fd (PySem.Str.ofString "is_name") (PySem.Str.ofString "is_name") :=
  ⟨F, fun _ => PySem.W.mg_of X G a, F.binds (fun _ _ _ _ _ _ us hl => match us, hl with | [_], _ => rfl), sc_is_name, rfl, rfl, rfl, rfl, fun n ks perm hm => kb_is_name F _ hm rfl, fun C n hl he => by
    have key : ∀ e ∈ ot.mks, (PySem.Str.ofString "is_name") = initOf e.1 → ∃ Ca, mg e.1 = some (.ref Ca) ∧ PySem.W.nsIn K mainGlobals e.1 = some (some (.ref Ca)) ∧ ObC K Ca ∧ Mk K Ca fa := by
      unfold ot
      simp only [List.forall_mem_cons, List.not_mem_nil, false_implies, implies_true, and_true]
      exact fun h => absurd h (by decide +kernel)
    exact key (C, n) (PySem.mem_of_lookup hl) he, fun C m hm he => by
    have key : ∀ e ∈ ot.sms, (PySem.Str.ofString "is_name") = statOf e.1 e.2 → ∃ Ca, mg e.1 = some (.ref Ca) ∧ SMet K Ca e.2 fa := by
      unfold ot
      simp only [List.forall_mem_cons, List.not_mem_nil, false_implies, implies_true, and_true]
      exact fun h => absurd h (by decide +kernel)
    exact key (C, m) hm he⟩
theorem ok_is_name {K : PySem.W.Frag} {mg : Str → Option Value} {h : Heap} (X : K.In h) (G : h.Ns mainGlobals mg) (D : DA K (PySem.Str.ofString "is_name") 13) : AtTab K mg con fns kws ot ((PySem.Str.ofString "is_name"), D_is_name) := by
  obtain ⟨fa, fd, F, a⟩ := D
  exact ⟨S_is_name, [(PySem.Str.ofString "value")], (topS 13), fa, fd, (PySem.Str.ofString "is_name"), (PySem.Str.ofString "is_name"), def_is_name X G F a, rfl, rfl, ⟨rfl, rfl, rfl⟩, rfl⟩
theorem sc_is_ascending : FnScope S_is_ascending.N [(PySem.Str.ofString "rows")] (defScope (topS 14)) := ⟨rfl, rfl, rfl, by decide +kernel, rfl, by decide +kernel, by decide +kernel⟩
theorem kb_is_ascending {K : PySem.W.Frag} {fa : Addr} {fd : FuncData} (F : Fun K (PySem.Str.ofString "is_ascending") (PySem.Str.ofString "is_ascending") (topS 14) fa fd) : ∀ e ∈ kws, e.1 = (PySem.Str.ofString "is_ascending") → KBinds K fd [(PySem.Str.ofString "rows")] e.2.2.1 (permW e.2.1 e.2.2.1.length e.2.2.2) (permW e.2.1 e.2.2.1.length e.2.2.2) := by
  unfold kws
  simp only [List.forall_mem_cons, List.not_mem_nil, false_implies, implies_true, and_true]
  exact fun h => absurd h (by decide +kernel)
theorem def_is_ascending {K : PySem.W.Frag} {mg : Str → Option Value} {h : Heap} (X : K.In h) (G : h.Ns mainGlobals mg) {fa : Addr} {fd : FuncData} (F : Fun K (PySem.Str.ofString "is_ascending") (PySem.Str.ofString "is_ascending") (topS 14) fa fd) (a : PySem.W.nsIn K mainGlobals (PySem.Str.ofString "is_ascending") = some (some (.ref fa))) : DefOk K mg kws ot S_is_ascending (PySem.Str.ofString "is_ascending") D_is_ascending [(PySem.Str.ofString "rows")] (topS 14) fa fd (PySem.Str.ofString "is_ascending") (PySem.Str.ofString "is_ascending") :=
  ⟨F, fun _ => PySem.W.mg_of X G a, F.binds (fun _ _ _ _ _ _ us hl => match us, hl with | [_], _ => rfl), sc_is_ascending, rfl, rfl, rfl, rfl, fun n ks perm hm => kb_is_ascending F _ hm rfl, fun C n hl he => by
    have key : ∀ e ∈ ot.mks, (PySem.Str.ofString "is_ascending") = initOf e.1 → ∃ Ca, mg e.1 = some (.ref Ca) ∧ PySem.W.nsIn K mainGlobals e.1 = some (some (.ref Ca)) ∧ ObC K Ca ∧ Mk K Ca fa := by
      unfold ot
      simp only [List.forall_mem_cons, List.not_mem_nil, false_implies, implies_true, and_true]
      exact fun h => absurd h (by decide +kernel)
    exact key (C, n) (PySem.mem_of_lookup hl) he, fun C m hm he => by
    have key : ∀ e ∈ ot.sms, (PySem.Str.ofString "is_ascending") = statOf e.1 e.2 → ∃ Ca, mg e.1 = some (.ref Ca) ∧ SMet K Ca e.2 fa := by
      unfold ot
      simp only [List.forall_mem_cons, List.not_mem_nil, false_implies, implies_true, and_true]
      exact fun h => absurd h (by decide +kernel)
    exact key (C, m) hm he⟩
theorem ok_is_ascending {K : PySem.W.Frag} {mg : Str → Option Value} {h : Heap} (X : K.In h) (G : h.Ns mainGlobals mg) (D : DA K (PySem.Str.ofString "is_ascending") 14) : AtTab K mg con fns kws ot ((PySem.Str.ofString "is_ascending"), D_is_ascending) := by
  obtain ⟨fa, fd, F, a⟩ := D
  exact ⟨S_is_ascending, [(PySem.Str.ofString "rows")], (topS 14), fa, fd, (PySem.Str.ofString "is_ascending"), (PySem.Str.ofString "is_ascending"), def_is_ascending X G F a, rfl, rfl, ⟨rfl, rfl, rfl⟩, rfl⟩
theorem sc_is_point : FnScope S_is_point.N [(PySem.Str.ofString "events"), (PySem.Str.ofString "value")] (defScope (topS 15)) := ⟨rfl, rfl, rfl, by decide +kernel, rfl, by decide +kernel, by decide +kernel⟩
theorem kb_is_point {K : PySem.W.Frag} {fa : Addr} {fd : FuncData} (F : Fun K (PySem.Str.ofString "is_point") (PySem.Str.ofString "is_point") (topS 15) fa fd) : ∀ e ∈ kws, e.1 = (PySem.Str.ofString "is_point") → KBinds K fd [(PySem.Str.ofString "events"), (PySem.Str.ofString "value")] e.2.2.1 (permW e.2.1 e.2.2.1.length e.2.2.2) (permW e.2.1 e.2.2.1.length e.2.2.2) := by
  unfold kws
  simp only [List.forall_mem_cons, List.not_mem_nil, false_implies, implies_true, and_true]
  exact fun h => absurd h (by decide +kernel)
theorem def_is_point {K : PySem.W.Frag} {mg : Str → Option Value} {h : Heap} (X : K.In h) (G : h.Ns mainGlobals mg) {fa : Addr} {fd : FuncData} (F : Fun K (PySem.Str.ofString "is_point") (PySem.Str.ofString "is_point") (topS 15) fa fd) (a : PySem.W.nsIn K mainGlobals (PySem.Str.ofString "is_point") = some (some (.ref fa))) : DefOk K mg kws ot S_is_point (PySem.Str.ofString "is_point") D_is_point [(PySem.Str.ofString "events"), (PySem.Str.ofString "value")] (topS 15) fa fd (PySem.Str.ofString "is_point") (PySem.Str.ofString "is_point") :=
  ⟨F, fun _ => PySem.W.mg_of X G a, F.binds (fun _ _ _ _ _ _ us hl => match us, hl with | [_, _], _ => rfl), sc_is_point, rfl, rfl, rfl, rfl, fun n ks perm hm => kb_is_point F _ hm rfl, fun C n hl he => by
    have key : ∀ e ∈ ot.mks, (PySem.Str.ofString "is_point") = initOf e.1 → ∃ Ca, mg e.1 = some (.ref Ca) ∧ PySem.W.nsIn K mainGlobals e.1 = some (some (.ref Ca)) ∧ ObC K Ca ∧ Mk K Ca fa := by
      unfold ot
      simp only [List.forall_mem_cons, List.not_mem_nil, false_implies, implies_true, and_true]
      exact fun h => absurd h (by decide +kernel)
    exact key (C, n) (PySem.mem_of_lookup hl) he, fun C m hm he => by
    have key : ∀ e ∈ ot.sms, (PySem.Str.ofString "is_point") = statOf e.1 e.2 → ∃ Ca, mg e.1 = some (.ref Ca) ∧ SMet K Ca e.2 fa := by
      unfold ot
      simp only [List.forall_mem_cons, List.not_mem_nil, false_implies, implies_true, and_true]
      exact fun h => absurd h (by decide +kernel)
    exact key (C, m) hm he⟩
theorem ok_is_point {K : PySem.W.Frag} {mg : Str → Option Value} {h : Heap} (X : K.In h) (G : h.Ns mainGlobals mg) (D : DA K (PySem.Str.ofString "is_point") 15) : AtTab K mg con fns kws ot ((PySem.Str.ofString "is_point"), D_is_point) := by
  obtain ⟨fa, fd, F, a⟩ := D
  exact ⟨S_is_point, [(PySem.Str.ofString "events"), (PySem.Str.ofString "value")], (topS 15), fa, fd, (PySem.Str.ofString "is_point"), (PySem.Str.ofString "is_point"), def_is_point X G F a, rfl, rfl, ⟨rfl, rfl, rfl⟩, rfl⟩
theorem sc_is_bound : FnScope S_is_bound.N [(PySem.Str.ofString "events"), (PySem.Str.ofString "value")] (defScope (topS 16)) := ⟨rfl, rfl, rfl, by decide +kernel, rfl, by decide +kernel, by decide +kernel⟩
theorem kb_is_bound {K : PySem.W.Frag} {fa : Addr} {fd : FuncData} (F : Fun K (PySem.Str.ofString "is_bound") (PySem.Str.ofString "is_bound") (topS 16) fa fd) : ∀ e ∈ kws, e.1 = (PySem.Str.ofString "is_bound") → KBinds K fd [(PySem.Str.ofString "events"), (PySem.Str.ofString "value")] e.2.2.1 (permW e.2.1 e.2.2.1.length e.2.2.2) (permW e.2.1 e.2.2.1.length e.2.2.2) := by
  unfold kws
  simp only [List.forall_mem_cons, List.not_mem_nil, false_implies, implies_true, and_true]
  exact fun h => absurd h (by decide +kernel)
theorem def_is_bound {K : PySem.W.Frag} {mg : Str → Option Value} {h : Heap} (X : K.In h) (G : h.Ns mainGlobals mg) {fa : Addr} {fd : FuncData} (F : Fun K (PySem.Str.ofString "is_bound") (PySem.Str.ofString "is_bound") (topS 16) fa fd) (a : PySem.W.nsIn K mainGlobals (PySem.Str.ofString "is_bound") = some (some (.ref fa))) : DefOk K mg kws ot S_is_bound (PySem.Str.ofString "is_bound") D_is_bound [(PySem.Str.ofString "events"), (PySem.Str.ofString "value")] (topS 16) fa fd (PySem.Str.ofString "is_bound") (PySem.Str.ofString "is_bound") :=
  ⟨F, fun _ => PySem.W.mg_of X G a, F.binds (fun _ _ _ _ _ _ us hl => match us, hl with | [_, _], _ => rfl), sc_is_bound, rfl, rfl, rfl, rfl, fun n ks perm hm => kb_is_bound F _ hm rfl, fun C n hl he => by
    have key : ∀ e ∈ ot.mks, (PySem.Str.ofString "is_bound") = initOf e.1 → ∃ Ca, mg e.1 = some (.ref Ca) ∧ PySem.W.nsIn K mainGlobals e.1 = some (some (.ref Ca)) ∧ ObC K Ca ∧ Mk K Ca fa := by
      unfold ot
      simp only [List.forall_mem_cons, List.not_mem_nil, false_implies, implies_true, and_true]
      exact fun h => absurd h (by decide +kernel)
    exact key (C, n) (PySem.mem_of_lookup hl) he, fun C m hm he => by
    have key : ∀ e ∈ ot.sms, (PySem.Str.ofString "is_bound") = statOf e.1 e.2 → ∃ Ca, mg e.1 = some (.ref Ca) ∧ SMet K Ca e.2 fa := by
      unfold ot
      simp only [List.forall_mem_cons, List.not_mem_nil, false_implies, implies_true, and_true]
      exact fun h => absurd h (by decide +kernel)
    exact key (C, m) hm he⟩
theorem ok_is_bound {K : PySem.W.Frag} {mg : Str → Option Value} {h : Heap} (X : K.In h) (G : h.Ns mainGlobals mg) (D : DA K (PySem.Str.ofString "is_bound") 16) : AtTab K mg con fns kws ot ((PySem.Str.ofString "is_bound"), D_is_bound) := by
  obtain ⟨fa, fd, F, a⟩ := D
  exact ⟨S_is_bound, [(PySem.Str.ofString "events"), (PySem.Str.ofString "value")], (topS 16), fa, fd, (PySem.Str.ofString "is_bound"), (PySem.Str.ofString "is_bound"), def_is_bound X G F a, rfl, rfl, ⟨rfl, rfl, rfl⟩, rfl⟩
theorem sc_is_task : FnScope S_is_task.N [(PySem.Str.ofString "events"), (PySem.Str.ofString "value")] (defScope (topS 17)) := ⟨rfl, rfl, rfl, by decide +kernel, rfl, by decide +kernel, by decide +kernel⟩
theorem kb_is_task {K : PySem.W.Frag} {fa : Addr} {fd : FuncData} (F : Fun K (PySem.Str.ofString "is_task") (PySem.Str.ofString "is_task") (topS 17) fa fd) : ∀ e ∈ kws, e.1 = (PySem.Str.ofString "is_task") → KBinds K fd [(PySem.Str.ofString "events"), (PySem.Str.ofString "value")] e.2.2.1 (permW e.2.1 e.2.2.1.length e.2.2.2) (permW e.2.1 e.2.2.1.length e.2.2.2) := by
  unfold kws
  simp only [List.forall_mem_cons, List.not_mem_nil, false_implies, implies_true, and_true]
  exact fun h => absurd h (by decide +kernel)
theorem def_is_task {K : PySem.W.Frag} {mg : Str → Option Value} {h : Heap} (X : K.In h) (G : h.Ns mainGlobals mg) {fa : Addr} {fd : FuncData} (F : Fun K (PySem.Str.ofString "is_task") (PySem.Str.ofString "is_task") (topS 17) fa fd) (a : PySem.W.nsIn K mainGlobals (PySem.Str.ofString "is_task") = some (some (.ref fa))) : DefOk K mg kws ot S_is_task (PySem.Str.ofString "is_task") D_is_task [(PySem.Str.ofString "events"), (PySem.Str.ofString "value")] (topS 17) fa fd (PySem.Str.ofString "is_task") (PySem.Str.ofString "is_task") :=
  ⟨F, fun _ => PySem.W.mg_of X G a, F.binds (fun _ _ _ _ _ _ us hl => match us, hl with | [_, _], _ => rfl), sc_is_task, rfl, rfl, rfl, rfl, fun n ks perm hm => kb_is_task F _ hm rfl, fun C n hl he => by
    have key : ∀ e ∈ ot.mks, (PySem.Str.ofString "is_task") = initOf e.1 → ∃ Ca, mg e.1 = some (.ref Ca) ∧ PySem.W.nsIn K mainGlobals e.1 = some (some (.ref Ca)) ∧ ObC K Ca ∧ Mk K Ca fa := by
      unfold ot
      simp only [List.forall_mem_cons, List.not_mem_nil, false_implies, implies_true, and_true]
      exact fun h => absurd h (by decide +kernel)
    exact key (C, n) (PySem.mem_of_lookup hl) he, fun C m hm he => by
    have key : ∀ e ∈ ot.sms, (PySem.Str.ofString "is_task") = statOf e.1 e.2 → ∃ Ca, mg e.1 = some (.ref Ca) ∧ SMet K Ca e.2 fa := by
      unfold ot
      simp only [List.forall_mem_cons, List.not_mem_nil, false_implies, implies_true, and_true]
      exact fun h => absurd h (by decide +kernel)
    exact key (C, m) hm he⟩
theorem ok_is_task {K : PySem.W.Frag} {mg : Str → Option Value} {h : Heap} (X : K.In h) (G : h.Ns mainGlobals mg) (D : DA K (PySem.Str.ofString "is_task") 17) : AtTab K mg con fns kws ot ((PySem.Str.ofString "is_task"), D_is_task) := by
  obtain ⟨fa, fd, F, a⟩ := D
  exact ⟨S_is_task, [(PySem.Str.ofString "events"), (PySem.Str.ofString "value")], (topS 17), fa, fd, (PySem.Str.ofString "is_task"), (PySem.Str.ofString "is_task"), def_is_task X G F a, rfl, rfl, ⟨rfl, rfl, rfl⟩, rfl⟩
theorem sc_are_events : FnScope S_are_events.N [(PySem.Str.ofString "value")] (defScope (topS 18)) := ⟨rfl, rfl, rfl, by decide +kernel, rfl, by decide +kernel, by decide +kernel⟩
theorem kb_are_events {K : PySem.W.Frag} {fa : Addr} {fd : FuncData} (F : Fun K (PySem.Str.ofString "are_events") (PySem.Str.ofString "are_events") (topS 18) fa fd) : ∀ e ∈ kws, e.1 = (PySem.Str.ofString "are_events") → KBinds K fd [(PySem.Str.ofString "value")] e.2.2.1 (permW e.2.1 e.2.2.1.length e.2.2.2) (permW e.2.1 e.2.2.1.length e.2.2.2) := by
  unfold kws
  simp only [List.forall_mem_cons, List.not_mem_nil, false_implies, implies_true, and_true]
  exact fun h => absurd h (by decide +kernel)
theorem def_are_events {K : PySem.W.Frag} {mg : Str → Option Value} {h : Heap} (X : K.In h) (G : h.Ns mainGlobals mg) {fa : Addr} {fd : FuncData} (F : Fun K (PySem.Str.ofString "are_events") (PySem.Str.ofString "are_events") (topS 18) fa fd) (a : PySem.W.nsIn K mainGlobals (PySem.Str.ofString "are_events") = some (some (.ref fa))) : DefOk K mg kws ot S_are_events (PySem.Str.ofString "are_events") D_are_events [(PySem.Str.ofString "value")] (topS 18) fa fd (PySem.Str.ofString "are_events") (PySem.Str.ofString "are_events") :=
  ⟨F, fun _ => PySem.W.mg_of X G a, F.binds (fun _ _ _ _ _ _ us hl => match us, hl with | [_], _ => rfl), sc_are_events, rfl, rfl, rfl, rfl, fun n ks perm hm => kb_are_events F _ hm rfl, fun C n hl he => by
    have key : ∀ e ∈ ot.mks, (PySem.Str.ofString "are_events") = initOf e.1 → ∃ Ca, mg e.1 = some (.ref Ca) ∧ PySem.W.nsIn K mainGlobals e.1 = some (some (.ref Ca)) ∧ ObC K Ca ∧ Mk K Ca fa := by
      unfold ot
      simp only [List.forall_mem_cons, List.not_mem_nil, false_implies, implies_true, and_true]
      exact fun h => absurd h (by decide +kernel)
    exact key (C, n) (PySem.mem_of_lookup hl) he, fun C m hm he => by
    have key : ∀ e ∈ ot.sms, (PySem.Str.ofString "are_events") = statOf e.1 e.2 → ∃ Ca, mg e.1 = some (.ref Ca) ∧ SMet K Ca e.2 fa := by
      unfold ot
      simp only [List.forall_mem_cons, List.not_mem_nil, false_implies, implies_true, and_true]
      exact fun h => absurd h (by decide +kernel)
    exact key (C, m) hm he⟩
theorem ok_are_events {K : PySem.W.Frag} {mg : Str → Option Value} {h : Heap} (X : K.In h) (G : h.Ns mainGlobals mg) (D : DA K (PySem.Str.ofString "are_events") 18) : AtTab K mg con fns kws ot ((PySem.Str.ofString "are_events"), D_are_events) := by
  obtain ⟨fa, fd, F, a⟩ := D
  exact ⟨S_are_events, [(PySem.Str.ofString "value")], (topS 18), fa, fd, (PySem.Str.ofString "are_events"), (PySem.Str.ofString "are_events"), def_are_events X G F a, rfl, rfl, ⟨rfl, rfl, rfl⟩, rfl⟩
theorem sc_are_bounds : FnScope S_are_bounds.N [(PySem.Str.ofString "events"), (PySem.Str.ofString "value")] (defScope (topS 19)) := ⟨rfl, rfl, rfl, by decide +kernel, rfl, by decide +kernel, by decide +kernel⟩
theorem kb_are_bounds {K : PySem.W.Frag} {fa : Addr} {fd : FuncData} (F : Fun K (PySem.Str.ofString "are_bounds") (PySem.Str.ofString "are_bounds") (topS 19) fa fd) : ∀ e ∈ kws, e.1 = (PySem.Str.ofString "are_bounds") → KBinds K fd [(PySem.Str.ofString "events"), (PySem.Str.ofString "value")] e.2.2.1 (permW e.2.1 e.2.2.1.length e.2.2.2) (permW e.2.1 e.2.2.1.length e.2.2.2) := by
  unfold kws
  simp only [List.forall_mem_cons, List.not_mem_nil, false_implies, implies_true, and_true]
  exact fun h => absurd h (by decide +kernel)
theorem def_are_bounds {K : PySem.W.Frag} {mg : Str → Option Value} {h : Heap} (X : K.In h) (G : h.Ns mainGlobals mg) {fa : Addr} {fd : FuncData} (F : Fun K (PySem.Str.ofString "are_bounds") (PySem.Str.ofString "are_bounds") (topS 19) fa fd) (a : PySem.W.nsIn K mainGlobals (PySem.Str.ofString "are_bounds") = some (some (.ref fa))) : DefOk K mg kws ot S_are_bounds (PySem.Str.ofString "are_bounds") D_are_bounds [(PySem.Str.ofString "events"), (PySem.Str.ofString "value")] (topS 19) fa fd (PySem.Str.ofString "are_bounds") (PySem.Str.ofString "are_bounds") :=
  ⟨F, fun _ => PySem.W.mg_of X G a, F.binds (fun _ _ _ _ _ _ us hl => match us, hl with | [_, _], _ => rfl), sc_are_bounds, rfl, rfl, rfl, rfl, fun n ks perm hm => kb_are_bounds F _ hm rfl, fun C n hl he => by
    have key : ∀ e ∈ ot.mks, (PySem.Str.ofString "are_bounds") = initOf e.1 → ∃ Ca, mg e.1 = some (.ref Ca) ∧ PySem.W.nsIn K mainGlobals e.1 = some (some (.ref Ca)) ∧ ObC K Ca ∧ Mk K Ca fa := by
      unfold ot
      simp only [List.forall_mem_cons, List.not_mem_nil, false_implies, implies_true, and_true]
      exact fun h => absurd h (by decide +kernel)
    exact key (C, n) (PySem.mem_of_lookup hl) he, fun C m hm he => by
    have key : ∀ e ∈ ot.sms, (PySem.Str.ofString "are_bounds") = statOf e.1 e.2 → ∃ Ca, mg e.1 = some (.ref Ca) ∧ SMet K Ca e.2 fa := by
      unfold ot
      simp only [List.forall_mem_cons, List.not_mem_nil, false_implies, implies_true, and_true]
      exact fun h => absurd h (by decide +kernel)
    exact key (C, m) hm he⟩
theorem ok_are_bounds {K : PySem.W.Frag} {mg : Str → Option Value} {h : Heap} (X : K.In h) (G : h.Ns mainGlobals mg) (D : DA K (PySem.Str.ofString "are_bounds") 19) : AtTab K mg con fns kws ot ((PySem.Str.ofString "are_bounds"), D_are_bounds) := by
  obtain ⟨fa, fd, F, a⟩ := D
  exact ⟨S_are_bounds, [(PySem.Str.ofString "events"), (PySem.Str.ofString "value")], (topS 19), fa, fd, (PySem.Str.ofString "are_bounds"), (PySem.Str.ofString "are_bounds"), def_are_bounds X G F a, rfl, rfl, ⟨rfl, rfl, rfl⟩, rfl⟩
theorem sc_begins_of : FnScope S_begins_of.N [(PySem.Str.ofString "tasks")] (defScope (topS 20)) := ⟨rfl, rfl, rfl, by decide +kernel, rfl, by decide +kernel, by decide +kernel⟩
theorem kb_begins_of {K : PySem.W.Frag} {fa : Addr} {fd : FuncData} (F : Fun K (PySem.Str.ofString "begins_of") (PySem.Str.ofString "begins_of") (topS 20) fa fd) : ∀ e ∈ kws, e.1 = (PySem.Str.ofString "begins_of") → KBinds K fd [(PySem.Str.ofString "tasks")] e.2.2.1 (permW e.2.1 e.2.2.1.length e.2.2.2) (permW e.2.1 e.2.2.1.length e.2.2.2) := by
  unfold kws
  simp only [List.forall_mem_cons, List.not_mem_nil, false_implies, implies_true, and_true]
  exact fun h => absurd h (by decide +kernel)
theorem def_begins_of {K : PySem.W.Frag} {mg : Str → Option Value} {h : Heap} (X : K.In h) (G : h.Ns mainGlobals mg) {fa : Addr} {fd : FuncData} (F : Fun K (PySem.Str.ofString "begins_of") (PySem.Str.ofString "begins_of") (topS 20) fa fd) (a : PySem.W.nsIn K mainGlobals (PySem.Str.ofString "begins_of") = some (some (.ref fa))) : DefOk K mg kws ot S_begins_of (PySem.Str.ofString "begins_of") D_begins_of [(PySem.Str.ofString "tasks")] (topS 20) fa fd (PySem.Str.ofString "begins_of") (PySem.Str.ofString "begins_of") :=
  ⟨F, fun _ => PySem.W.mg_of X G a, F.binds (fun _ _ _ _ _ _ us hl => match us, hl with | [_], _ => rfl), sc_begins_of, rfl, rfl, rfl, rfl, fun n ks perm hm => kb_begins_of F _ hm rfl, fun C n hl he => by
    have key : ∀ e ∈ ot.mks, (PySem.Str.ofString "begins_of") = initOf e.1 → ∃ Ca, mg e.1 = some (.ref Ca) ∧ PySem.W.nsIn K mainGlobals e.1 = some (some (.ref Ca)) ∧ ObC K Ca ∧ Mk K Ca fa := by
      unfold ot
      simp only [List.forall_mem_cons, List.not_mem_nil, false_implies, implies_true, and_true]
      exact fun h => absurd h (by decide +kernel)
    exact key (C, n) (PySem.mem_of_lookup hl) he, fun C m hm he => by
    have key : ∀ e ∈ ot.sms, (PySem.Str.ofString "begins_of") = statOf e.1 e.2 → ∃ Ca, mg e.1 = some (.ref Ca) ∧ SMet K Ca e.2 fa := by
      unfold ot
      simp only [List.forall_mem_cons, List.not_mem_nil, false_implies, implies_true, and_true]
      exact fun h => absurd h (by decide +kernel)
    exact key (C, m) hm he⟩
theorem ok_begins_of {K : PySem.W.Frag} {mg : Str → Option Value} {h : Heap} (X : K.In h) (G : h.Ns mainGlobals mg) (D : DA K (PySem.Str.ofString "begins_of") 20) : AtTab K mg con fns kws ot ((PySem.Str.ofString "begins_of"), D_begins_of) := by
  obtain ⟨fa, fd, F, a⟩ := D
  exact ⟨S_begins_of, [(PySem.Str.ofString "tasks")], (topS 20), fa, fd, (PySem.Str.ofString "begins_of"), (PySem.Str.ofString "begins_of"), def_begins_of X G F a, rfl, rfl, ⟨rfl, rfl, rfl⟩, rfl⟩
theorem sc_is_rooted : FnScope S_is_rooted.N [(PySem.Str.ofString "tasks")] (defScope (topS 21)) := ⟨rfl, rfl, rfl, by decide +kernel, rfl, by decide +kernel, by decide +kernel⟩
theorem kb_is_rooted {K : PySem.W.Frag} {fa : Addr} {fd : FuncData} (F : Fun K (PySem.Str.ofString "is_rooted") (PySem.Str.ofString "is_rooted") (topS 21) fa fd) : ∀ e ∈ kws, e.1 = (PySem.Str.ofString "is_rooted") → KBinds K fd [(PySem.Str.ofString "tasks")] e.2.2.1 (permW e.2.1 e.2.2.1.length e.2.2.2) (permW e.2.1 e.2.2.1.length e.2.2.2) := by
  unfold kws
  simp only [List.forall_mem_cons, List.not_mem_nil, false_implies, implies_true, and_true]
  exact fun h => absurd h (by decide +kernel)
theorem def_is_rooted {K : PySem.W.Frag} {mg : Str → Option Value} {h : Heap} (X : K.In h) (G : h.Ns mainGlobals mg) {fa : Addr} {fd : FuncData} (F : Fun K (PySem.Str.ofString "is_rooted") (PySem.Str.ofString "is_rooted") (topS 21) fa fd) (a : PySem.W.nsIn K mainGlobals (PySem.Str.ofString "is_rooted") = some (some (.ref fa))) : DefOk K mg kws ot S_is_rooted (PySem.Str.ofString "is_rooted") D_is_rooted [(PySem.Str.ofString "tasks")] (topS 21) fa fd (PySem.Str.ofString "is_rooted") (PySem.Str.ofString "is_rooted") :=
  ⟨F, fun _ => PySem.W.mg_of X G a, F.binds (fun _ _ _ _ _ _ us hl => match us, hl with | [_], _ => rfl), sc_is_rooted, rfl, rfl, rfl, rfl, fun n ks perm hm => kb_is_rooted F _ hm rfl, fun C n hl he => by
    have key : ∀ e ∈ ot.mks, (PySem.Str.ofString "is_rooted") = initOf e.1 → ∃ Ca, mg e.1 = some (.ref Ca) ∧ PySem.W.nsIn K mainGlobals e.1 = some (some (.ref Ca)) ∧ ObC K Ca ∧ Mk K Ca fa := by
      unfold ot
      simp only [List.forall_mem_cons, List.not_mem_nil, false_implies, implies_true, and_true]
      exact fun h => absurd h (by decide +kernel)
    exact key (C, n) (PySem.mem_of_lookup hl) he, fun C m hm he => by
    have key : ∀ e ∈ ot.sms, (PySem.Str.ofString "is_rooted") = statOf e.1 e.2 → ∃ Ca, mg e.1 = some (.ref Ca) ∧ SMet K Ca e.2 fa := by
      unfold ot
      simp only [List.forall_mem_cons, List.not_mem_nil, false_implies, implies_true, and_true]
      exact fun h => absurd h (by decide +kernel)
    exact key (C, m) hm he⟩
theorem ok_is_rooted {K : PySem.W.Frag} {mg : Str → Option Value} {h : Heap} (X : K.In h) (G : h.Ns mainGlobals mg) (D : DA K (PySem.Str.ofString "is_rooted") 21) : AtTab K mg con fns kws ot ((PySem.Str.ofString "is_rooted"), D_is_rooted) := by
  obtain ⟨fa, fd, F, a⟩ := D
  exact ⟨S_is_rooted, [(PySem.Str.ofString "tasks")], (topS 21), fa, fd, (PySem.Str.ofString "is_rooted"), (PySem.Str.ofString "is_rooted"), def_is_rooted X G F a, rfl, rfl, ⟨rfl, rfl, rfl⟩, rfl⟩
theorem sc_are_tasks : FnScope S_are_tasks.N [(PySem.Str.ofString "events"), (PySem.Str.ofString "value")] (defScope (topS 22)) := ⟨rfl, rfl, rfl, by decide +kernel, rfl, by decide +kernel, by decide +kernel⟩
theorem kb_are_tasks {K : PySem.W.Frag} {fa : Addr} {fd : FuncData} (F : Fun K (PySem.Str.ofString "are_tasks") (PySem.Str.ofString "are_tasks") (topS 22) fa fd) : ∀ e ∈ kws, e.1 = (PySem.Str.ofString "are_tasks") → KBinds K fd [(PySem.Str.ofString "events"), (PySem.Str.ofString "value")] e.2.2.1 (permW e.2.1 e.2.2.1.length e.2.2.2) (permW e.2.1 e.2.2.1.length e.2.2.2) := by
  unfold kws
  simp only [List.forall_mem_cons, List.not_mem_nil, false_implies, implies_true, and_true]
  exact fun h => absurd h (by decide +kernel)
theorem def_are_tasks {K : PySem.W.Frag} {mg : Str → Option Value} {h : Heap} (X : K.In h) (G : h.Ns mainGlobals mg) {fa : Addr} {fd : FuncData} (F : Fun K (PySem.Str.ofString "are_tasks") (PySem.Str.ofString "are_tasks") (topS 22) fa fd) (a : PySem.W.nsIn K mainGlobals (PySem.Str.ofString "are_tasks") = some (some (.ref fa))) : DefOk K mg kws ot S_are_tasks (PySem.Str.ofString "are_tasks") D_are_tasks [(PySem.Str.ofString "events"), (PySem.Str.ofString "value")] (topS 22) fa fd (PySem.Str.ofString "are_tasks") (PySem.Str.ofString "are_tasks") :=
  ⟨F, fun _ => PySem.W.mg_of X G a, F.binds (fun _ _ _ _ _ _ us hl => match us, hl with | [_, _], _ => rfl), sc_are_tasks, rfl, rfl, rfl, rfl, fun n ks perm hm => kb_are_tasks F _ hm rfl, fun C n hl he => by
    have key : ∀ e ∈ ot.mks, (PySem.Str.ofString "are_tasks") = initOf e.1 → ∃ Ca, mg e.1 = some (.ref Ca) ∧ PySem.W.nsIn K mainGlobals e.1 = some (some (.ref Ca)) ∧ ObC K Ca ∧ Mk K Ca fa := by
      unfold ot
      simp only [List.forall_mem_cons, List.not_mem_nil, false_implies, implies_true, and_true]
      exact fun h => absurd h (by decide +kernel)
    exact key (C, n) (PySem.mem_of_lookup hl) he, fun C m hm he => by
    have key : ∀ e ∈ ot.sms, (PySem.Str.ofString "are_tasks") = statOf e.1 e.2 → ∃ Ca, mg e.1 = some (.ref Ca) ∧ SMet K Ca e.2 fa := by
      unfold ot
      simp only [List.forall_mem_cons, List.not_mem_nil, false_implies, implies_true, and_true]
      exact fun h => absurd h (by decide +kernel)
    exact key (C, m) hm he⟩
theorem ok_are_tasks {K : PySem.W.Frag} {mg : Str → Option Value} {h : Heap} (X : K.In h) (G : h.Ns mainGlobals mg) (D : DA K (PySem.Str.ofString "are_tasks") 22) : AtTab K mg con fns kws ot ((PySem.Str.ofString "are_tasks"), D_are_tasks) := by
  obtain ⟨fa, fd, F, a⟩ := D
  exact ⟨S_are_tasks, [(PySem.Str.ofString "events"), (PySem.Str.ofString "value")], (topS 22), fa, fd, (PySem.Str.ofString "are_tasks"), (PySem.Str.ofString "are_tasks"), def_are_tasks X G F a, rfl, rfl, ⟨rfl, rfl, rfl⟩, rfl⟩
theorem sc_is_plan : FnScope S_is_plan.N [(PySem.Str.ofString "value")] (defScope (topS 23)) := ⟨rfl, rfl, rfl, by decide +kernel, rfl, by decide +kernel, by decide +kernel⟩
theorem kb_is_plan {K : PySem.W.Frag} {fa : Addr} {fd : FuncData} (F : Fun K (PySem.Str.ofString "is_plan") (PySem.Str.ofString "is_plan") (topS 23) fa fd) : ∀ e ∈ kws, e.1 = (PySem.Str.ofString "is_plan") → KBinds K fd [(PySem.Str.ofString "value")] e.2.2.1 (permW e.2.1 e.2.2.1.length e.2.2.2) (permW e.2.1 e.2.2.1.length e.2.2.2) := by
  unfold kws
  simp only [List.forall_mem_cons, List.not_mem_nil, false_implies, implies_true, and_true]
  exact fun h => absurd h (by decide +kernel)
theorem def_is_plan {K : PySem.W.Frag} {mg : Str → Option Value} {h : Heap} (X : K.In h) (G : h.Ns mainGlobals mg) {fa : Addr} {fd : FuncData} (F : Fun K (PySem.Str.ofString "is_plan") (PySem.Str.ofString "is_plan") (topS 23) fa fd) (a : PySem.W.nsIn K mainGlobals (PySem.Str.ofString "is_plan") = some (some (.ref fa))) : DefOk K mg kws ot S_is_plan (PySem.Str.ofString "is_plan") D_is_plan [(PySem.Str.ofString "value")] (topS 23) fa fd (PySem.Str.ofString "is_plan") (PySem.Str.ofString "is_plan") :=
  ⟨F, fun _ => PySem.W.mg_of X G a, F.binds (fun _ _ _ _ _ _ us hl => match us, hl with | [_], _ => rfl), sc_is_plan, rfl, rfl, rfl, rfl, fun n ks perm hm => kb_is_plan F _ hm rfl, fun C n hl he => by
    have key : ∀ e ∈ ot.mks, (PySem.Str.ofString "is_plan") = initOf e.1 → ∃ Ca, mg e.1 = some (.ref Ca) ∧ PySem.W.nsIn K mainGlobals e.1 = some (some (.ref Ca)) ∧ ObC K Ca ∧ Mk K Ca fa := by
      unfold ot
      simp only [List.forall_mem_cons, List.not_mem_nil, false_implies, implies_true, and_true]
      exact fun h => absurd h (by decide +kernel)
    exact key (C, n) (PySem.mem_of_lookup hl) he, fun C m hm he => by
    have key : ∀ e ∈ ot.sms, (PySem.Str.ofString "is_plan") = statOf e.1 e.2 → ∃ Ca, mg e.1 = some (.ref Ca) ∧ SMet K Ca e.2 fa := by
      unfold ot
      simp only [List.forall_mem_cons, List.not_mem_nil, false_implies, implies_true, and_true]
      exact fun h => absurd h (by decide +kernel)
    exact key (C, m) hm he⟩
theorem ok_is_plan {K : PySem.W.Frag} {mg : Str → Option Value} {h : Heap} (X : K.In h) (G : h.Ns mainGlobals mg) (D : DA K (PySem.Str.ofString "is_plan") 23) : AtTab K mg con fns kws ot ((PySem.Str.ofString "is_plan"), D_is_plan) := by
  obtain ⟨fa, fd, F, a⟩ := D
  exact ⟨S_is_plan, [(PySem.Str.ofString "value")], (topS 23), fa, fd, (PySem.Str.ofString "is_plan"), (PySem.Str.ofString "is_plan"), def_is_plan X G F a, rfl, rfl, ⟨rfl, rfl, rfl⟩, rfl⟩
theorem sc_check_plan : FnScope S_check_plan.N [(PySem.Str.ofString "plan")] (defScope (topS 24)) := ⟨rfl, rfl, rfl, by decide +kernel, rfl, by decide +kernel, by decide +kernel⟩
theorem kb_check_plan {K : PySem.W.Frag} {fa : Addr} {fd : FuncData} (F : Fun K (PySem.Str.ofString "check_plan") (PySem.Str.ofString "check_plan") (topS 24) fa fd) : ∀ e ∈ kws, e.1 = (PySem.Str.ofString "check_plan") → KBinds K fd [(PySem.Str.ofString "plan")] e.2.2.1 (permW e.2.1 e.2.2.1.length e.2.2.2) (permW e.2.1 e.2.2.1.length e.2.2.2) := by
  unfold kws
  simp only [List.forall_mem_cons, List.not_mem_nil, false_implies, implies_true, and_true]
  exact fun h => absurd h (by decide +kernel)
theorem def_check_plan {K : PySem.W.Frag} {mg : Str → Option Value} {h : Heap} (X : K.In h) (G : h.Ns mainGlobals mg) {fa : Addr} {fd : FuncData} (F : Fun K (PySem.Str.ofString "check_plan") (PySem.Str.ofString "check_plan") (topS 24) fa fd) (a : PySem.W.nsIn K mainGlobals (PySem.Str.ofString "check_plan") = some (some (.ref fa))) : DefOk K mg kws ot S_check_plan (PySem.Str.ofString "check_plan") D_check_plan [(PySem.Str.ofString "plan")] (topS 24) fa fd (PySem.Str.ofString "check_plan") (PySem.Str.ofString "check_plan") :=
  ⟨F, fun _ => PySem.W.mg_of X G a, F.binds (fun _ _ _ _ _ _ us hl => match us, hl with | [_], _ => rfl), sc_check_plan, rfl, rfl, rfl, rfl, fun n ks perm hm => kb_check_plan F _ hm rfl, fun C n hl he => by
    have key : ∀ e ∈ ot.mks, (PySem.Str.ofString "check_plan") = initOf e.1 → ∃ Ca, mg e.1 = some (.ref Ca) ∧ PySem.W.nsIn K mainGlobals e.1 = some (some (.ref Ca)) ∧ ObC K Ca ∧ Mk K Ca fa := by
      unfold ot
      simp only [List.forall_mem_cons, List.not_mem_nil, false_implies, implies_true, and_true]
      exact fun h => absurd h (by decide +kernel)
    exact key (C, n) (PySem.mem_of_lookup hl) he, fun C m hm he => by
    have key : ∀ e ∈ ot.sms, (PySem.Str.ofString "check_plan") = statOf e.1 e.2 → ∃ Ca, mg e.1 = some (.ref Ca) ∧ SMet K Ca e.2 fa := by
      unfold ot
      simp only [List.forall_mem_cons, List.not_mem_nil, false_implies, implies_true, and_true]
      exact fun h => absurd h (by decide +kernel)
    exact key (C, m) hm he⟩
theorem ok_check_plan {K : PySem.W.Frag} {mg : Str → Option Value} {h : Heap} (X : K.In h) (G : h.Ns mainGlobals mg) (D : DA K (PySem.Str.ofString "check_plan") 24) : AtTab K mg con fns kws ot ((PySem.Str.ofString "check_plan"), D_check_plan) := by
  obtain ⟨fa, fd, F, a⟩ := D
  exact ⟨S_check_plan, [(PySem.Str.ofString "plan")], (topS 24), fa, fd, (PySem.Str.ofString "check_plan"), (PySem.Str.ofString "check_plan"), def_check_plan X G F a, rfl, rfl, ⟨rfl, rfl, rfl⟩, rfl⟩
theorem sc_moment_of : FnScope S_moment_of.N [(PySem.Str.ofString "plan"), (PySem.Str.ofString "moments"), (PySem.Str.ofString "point")] (defScope (topS 26)) := ⟨rfl, rfl, rfl, by decide +kernel, rfl, by decide +kernel, by decide +kernel⟩
theorem kb_moment_of {K : PySem.W.Frag} {fa : Addr} {fd : FuncData} (F : Fun K (PySem.Str.ofString "moment_of") (PySem.Str.ofString "moment_of") (topS 26) fa fd) : ∀ e ∈ kws, e.1 = (PySem.Str.ofString "moment_of") → KBinds K fd [(PySem.Str.ofString "plan"), (PySem.Str.ofString "moments"), (PySem.Str.ofString "point")] e.2.2.1 (permW e.2.1 e.2.2.1.length e.2.2.2) (permW e.2.1 e.2.2.1.length e.2.2.2) := by
  unfold kws
  simp only [List.forall_mem_cons, List.not_mem_nil, false_implies, implies_true, and_true]
  exact fun h => absurd h (by decide +kernel)
theorem def_moment_of {K : PySem.W.Frag} {mg : Str → Option Value} {h : Heap} (X : K.In h) (G : h.Ns mainGlobals mg) {fa : Addr} {fd : FuncData} (F : Fun K (PySem.Str.ofString "moment_of") (PySem.Str.ofString "moment_of") (topS 26) fa fd) (a : PySem.W.nsIn K mainGlobals (PySem.Str.ofString "moment_of") = some (some (.ref fa))) : DefOk K mg kws ot S_moment_of (PySem.Str.ofString "moment_of") D_moment_of [(PySem.Str.ofString "plan"), (PySem.Str.ofString "moments"), (PySem.Str.ofString "point")] (topS 26) fa fd (PySem.Str.ofString "moment_of") (PySem.Str.ofString "moment_of") :=
  ⟨F, fun _ => PySem.W.mg_of X G a, F.binds (fun _ _ _ _ _ _ us hl => match us, hl with | [_, _, _], _ => rfl), sc_moment_of, rfl, rfl, rfl, rfl, fun n ks perm hm => kb_moment_of F _ hm rfl, fun C n hl he => by
    have key : ∀ e ∈ ot.mks, (PySem.Str.ofString "moment_of") = initOf e.1 → ∃ Ca, mg e.1 = some (.ref Ca) ∧ PySem.W.nsIn K mainGlobals e.1 = some (some (.ref Ca)) ∧ ObC K Ca ∧ Mk K Ca fa := by
      unfold ot
      simp only [List.forall_mem_cons, List.not_mem_nil, false_implies, implies_true, and_true]
      exact fun h => absurd h (by decide +kernel)
    exact key (C, n) (PySem.mem_of_lookup hl) he, fun C m hm he => by
    have key : ∀ e ∈ ot.sms, (PySem.Str.ofString "moment_of") = statOf e.1 e.2 → ∃ Ca, mg e.1 = some (.ref Ca) ∧ SMet K Ca e.2 fa := by
      unfold ot
      simp only [List.forall_mem_cons, List.not_mem_nil, false_implies, implies_true, and_true]
      exact fun h => absurd h (by decide +kernel)
    exact key (C, m) hm he⟩
theorem ok_moment_of {K : PySem.W.Frag} {mg : Str → Option Value} {h : Heap} (X : K.In h) (G : h.Ns mainGlobals mg) (D : DA K (PySem.Str.ofString "moment_of") 26) : AtTab K mg con fns kws ot ((PySem.Str.ofString "moment_of"), D_moment_of) := by
  obtain ⟨fa, fd, F, a⟩ := D
  exact ⟨S_moment_of, [(PySem.Str.ofString "plan"), (PySem.Str.ofString "moments"), (PySem.Str.ofString "point")], (topS 26), fa, fd, (PySem.Str.ofString "moment_of"), (PySem.Str.ofString "moment_of"), def_moment_of X G F a, rfl, rfl, ⟨rfl, rfl, rfl⟩, rfl⟩
theorem sc_are_moments : FnScope S_are_moments.N [(PySem.Str.ofString "plan"), (PySem.Str.ofString "now"), (PySem.Str.ofString "value")] (defScope (topS 40)) := ⟨rfl, rfl, rfl, by decide +kernel, rfl, by decide +kernel, by decide +kernel⟩
theorem kb_are_moments {K : PySem.W.Frag} {fa : Addr} {fd : FuncData} (F : Fun K (PySem.Str.ofString "are_moments") (PySem.Str.ofString "are_moments") (topS 40) fa fd) : ∀ e ∈ kws, e.1 = (PySem.Str.ofString "are_moments") → KBinds K fd [(PySem.Str.ofString "plan"), (PySem.Str.ofString "now"), (PySem.Str.ofString "value")] e.2.2.1 (permW e.2.1 e.2.2.1.length e.2.2.2) (permW e.2.1 e.2.2.1.length e.2.2.2) := by
  unfold kws
  simp only [List.forall_mem_cons, List.not_mem_nil, false_implies, implies_true, and_true]
  exact fun h => absurd h (by decide +kernel)
theorem def_are_moments {K : PySem.W.Frag} {mg : Str → Option Value} {h : Heap} (X : K.In h) (G : h.Ns mainGlobals mg) {fa : Addr} {fd : FuncData} (F : Fun K (PySem.Str.ofString "are_moments") (PySem.Str.ofString "are_moments") (topS 40) fa fd) (a : PySem.W.nsIn K mainGlobals (PySem.Str.ofString "are_moments") = some (some (.ref fa))) : DefOk K mg kws ot S_are_moments (PySem.Str.ofString "are_moments") D_are_moments [(PySem.Str.ofString "plan"), (PySem.Str.ofString "now"), (PySem.Str.ofString "value")] (topS 40) fa fd (PySem.Str.ofString "are_moments") (PySem.Str.ofString "are_moments") :=
  ⟨F, fun _ => PySem.W.mg_of X G a, F.binds (fun _ _ _ _ _ _ us hl => match us, hl with | [_, _, _], _ => rfl), sc_are_moments, rfl, rfl, rfl, rfl, fun n ks perm hm => kb_are_moments F _ hm rfl, fun C n hl he => by
    have key : ∀ e ∈ ot.mks, (PySem.Str.ofString "are_moments") = initOf e.1 → ∃ Ca, mg e.1 = some (.ref Ca) ∧ PySem.W.nsIn K mainGlobals e.1 = some (some (.ref Ca)) ∧ ObC K Ca ∧ Mk K Ca fa := by
      unfold ot
      simp only [List.forall_mem_cons, List.not_mem_nil, false_implies, implies_true, and_true]
      exact fun h => absurd h (by decide +kernel)
    exact key (C, n) (PySem.mem_of_lookup hl) he, fun C m hm he => by
    have key : ∀ e ∈ ot.sms, (PySem.Str.ofString "are_moments") = statOf e.1 e.2 → ∃ Ca, mg e.1 = some (.ref Ca) ∧ SMet K Ca e.2 fa := by
      unfold ot
      simp only [List.forall_mem_cons, List.not_mem_nil, false_implies, implies_true, and_true]
      exact fun h => absurd h (by decide +kernel)
    exact key (C, m) hm he⟩
theorem ok_are_moments {K : PySem.W.Frag} {mg : Str → Option Value} {h : Heap} (X : K.In h) (G : h.Ns mainGlobals mg) (D : DA K (PySem.Str.ofString "are_moments") 40) : AtTab K mg con fns kws ot ((PySem.Str.ofString "are_moments"), D_are_moments) := by
  obtain ⟨fa, fd, F, a⟩ := D
  exact ⟨S_are_moments, [(PySem.Str.ofString "plan"), (PySem.Str.ofString "now"), (PySem.Str.ofString "value")], (topS 40), fa, fd, (PySem.Str.ofString "are_moments"), (PySem.Str.ofString "are_moments"), def_are_moments X G F a, rfl, rfl, ⟨rfl, rfl, rfl⟩, rfl⟩
theorem sc_is_history_of : FnScope S_is_history_of.N [(PySem.Str.ofString "plan"), (PySem.Str.ofString "value")] (defScope (topS 41)) := ⟨rfl, rfl, rfl, by decide +kernel, rfl, by decide +kernel, by decide +kernel⟩
theorem kb_is_history_of {K : PySem.W.Frag} {fa : Addr} {fd : FuncData} (F : Fun K (PySem.Str.ofString "is_history_of") (PySem.Str.ofString "is_history_of") (topS 41) fa fd) : ∀ e ∈ kws, e.1 = (PySem.Str.ofString "is_history_of") → KBinds K fd [(PySem.Str.ofString "plan"), (PySem.Str.ofString "value")] e.2.2.1 (permW e.2.1 e.2.2.1.length e.2.2.2) (permW e.2.1 e.2.2.1.length e.2.2.2) := by
  unfold kws
  simp only [List.forall_mem_cons, List.not_mem_nil, false_implies, implies_true, and_true]
  exact fun h => absurd h (by decide +kernel)
theorem def_is_history_of {K : PySem.W.Frag} {mg : Str → Option Value} {h : Heap} (X : K.In h) (G : h.Ns mainGlobals mg) {fa : Addr} {fd : FuncData} (F : Fun K (PySem.Str.ofString "is_history_of") (PySem.Str.ofString "is_history_of") (topS 41) fa fd) (a : PySem.W.nsIn K mainGlobals (PySem.Str.ofString "is_history_of") = some (some (.ref fa))) : DefOk K mg kws ot S_is_history_of (PySem.Str.ofString "is_history_of") D_is_history_of [(PySem.Str.ofString "plan"), (PySem.Str.ofString "value")] (topS 41) fa fd (PySem.Str.ofString "is_history_of") (PySem.Str.ofString "is_history_of") :=
  ⟨F, fun _ => PySem.W.mg_of X G a, F.binds (fun _ _ _ _ _ _ us hl => match us, hl with | [_, _], _ => rfl), sc_is_history_of, rfl, rfl, rfl, rfl, fun n ks perm hm => kb_is_history_of F _ hm rfl, fun C n hl he => by
    have key : ∀ e ∈ ot.mks, (PySem.Str.ofString "is_history_of") = initOf e.1 → ∃ Ca, mg e.1 = some (.ref Ca) ∧ PySem.W.nsIn K mainGlobals e.1 = some (some (.ref Ca)) ∧ ObC K Ca ∧ Mk K Ca fa := by
      unfold ot
      simp only [List.forall_mem_cons, List.not_mem_nil, false_implies, implies_true, and_true]
      exact fun h => absurd h (by decide +kernel)
    exact key (C, n) (PySem.mem_of_lookup hl) he, fun C m hm he => by
    have key : ∀ e ∈ ot.sms, (PySem.Str.ofString "is_history_of") = statOf e.1 e.2 → ∃ Ca, mg e.1 = some (.ref Ca) ∧ SMet K Ca e.2 fa := by
      unfold ot
      simp only [List.forall_mem_cons, List.not_mem_nil, false_implies, implies_true, and_true]
      exact fun h => absurd h (by decide +kernel)
    exact key (C, m) hm he⟩
theorem ok_is_history_of {K : PySem.W.Frag} {mg : Str → Option Value} {h : Heap} (X : K.In h) (G : h.Ns mainGlobals mg) (D : DA K (PySem.Str.ofString "is_history_of") 41) : AtTab K mg con fns kws ot ((PySem.Str.ofString "is_history_of"), D_is_history_of) := by
  obtain ⟨fa, fd, F, a⟩ := D
  exact ⟨S_is_history_of, [(PySem.Str.ofString "plan"), (PySem.Str.ofString "value")], (topS 41), fa, fd, (PySem.Str.ofString "is_history_of"), (PySem.Str.ofString "is_history_of"), def_is_history_of X G F a, rfl, rfl, ⟨rfl, rfl, rfl⟩, rfl⟩
theorem sc_is_history : FnScope S_is_history.N [(PySem.Str.ofString "plan"), (PySem.Str.ofString "value")] (defScope (topS 47)) := ⟨rfl, rfl, rfl, by decide +kernel, rfl, by decide +kernel, by decide +kernel⟩
theorem kb_is_history {K : PySem.W.Frag} {fa : Addr} {fd : FuncData} (F : Fun K (PySem.Str.ofString "is_history") (PySem.Str.ofString "is_history") (topS 47) fa fd) : ∀ e ∈ kws, e.1 = (PySem.Str.ofString "is_history") → KBinds K fd [(PySem.Str.ofString "plan"), (PySem.Str.ofString "value")] e.2.2.1 (permW e.2.1 e.2.2.1.length e.2.2.2) (permW e.2.1 e.2.2.1.length e.2.2.2) := by
  unfold kws
  simp only [List.forall_mem_cons, List.not_mem_nil, false_implies, implies_true, and_true]
  exact fun _ => by
    obtain ⟨oc, od, kV, doc, pm, an, cdv, ct, osl, rfl, _, _⟩ := F.ex
    refine ⟨fun s us ws _ hl => ?_, fun r rz => vals_permW r rz _ _ _⟩
    by_cases hc : us.length = 0 ∧ ws.length = 2
    · match us, ws, hc with
      | [], [w0, w1], _ => exact .of_eq rfl
      all_goals first | (simp at hc; done) | skip
    · exfalso
      unfold permW at hl
      split at hl
      · rename_i h; exact hc h
      · simp at hl
theorem def_is_history {K : PySem.W.Frag} {mg : Str → Option Value} {h : Heap} (X : K.In h) (G : h.Ns mainGlobals mg) {fa : Addr} {fd : FuncData} (F : Fun K (PySem.Str.ofString "is_history") (PySem.Str.ofString "is_history") (topS 47) fa fd) (a : PySem.W.nsIn K mainGlobals (PySem.Str.ofString "is_history") = some (some (.ref fa))) : DefOk K mg kws ot S_is_history (PySem.Str.ofString "is_history") D_is_history [(PySem.Str.ofString "plan"), (PySem.Str.ofString "value")] (topS 47) fa fd (PySem.Str.ofString "is_history") (PySem.Str.ofString "is_history") :=
  ⟨F, fun _ => PySem.W.mg_of X G a, F.binds (fun _ _ _ _ _ _ us hl => match us, hl with | [_, _], _ => rfl), sc_is_history, rfl, rfl, rfl, rfl, fun n ks perm hm => kb_is_history F _ hm rfl, fun C n hl he => by
    have key : ∀ e ∈ ot.mks, (PySem.Str.ofString "is_history") = initOf e.1 → ∃ Ca, mg e.1 = some (.ref Ca) ∧ PySem.W.nsIn K mainGlobals e.1 = some (some (.ref Ca)) ∧ ObC K Ca ∧ Mk K Ca fa := by
      unfold ot
      simp only [List.forall_mem_cons, List.not_mem_nil, false_implies, implies_true, and_true]
      exact fun h => absurd h (by decide +kernel)
    exact key (C, n) (PySem.mem_of_lookup hl) he, fun C m hm he => by
    have key : ∀ e ∈ ot.sms, (PySem.Str.ofString "is_history") = statOf e.1 e.2 → ∃ Ca, mg e.1 = some (.ref Ca) ∧ SMet K Ca e.2 fa := by
      unfold ot
      simp only [List.forall_mem_cons, List.not_mem_nil, false_implies, implies_true, and_true]
      exact fun h => absurd h (by decide +kernel)
    exact key (C, m) hm he⟩
theorem ok_is_history {K : PySem.W.Frag} {mg : Str → Option Value} {h : Heap} (X : K.In h) (G : h.Ns mainGlobals mg) (D : DA K (PySem.Str.ofString "is_history") 47) : AtTab K mg con fns kws ot ((PySem.Str.ofString "is_history"), D_is_history) := by
  obtain ⟨fa, fd, F, a⟩ := D
  exact ⟨S_is_history, [(PySem.Str.ofString "plan"), (PySem.Str.ofString "value")], (topS 47), fa, fd, (PySem.Str.ofString "is_history"), (PySem.Str.ofString "is_history"), def_is_history X G F a, rfl, rfl, ⟨rfl, rfl, rfl⟩, rfl⟩
theorem sc__law_sack : FnScope S__law_sack.N [(PySem.Str.ofString "script"), (PySem.Str.ofString "at")] (defScope (topS 67)) := ⟨rfl, rfl, rfl, by decide +kernel, rfl, by decide +kernel, by decide +kernel⟩
theorem kb__law_sack {K : PySem.W.Frag} {fa : Addr} {fd : FuncData} (F : Fun K (PySem.Str.ofString "_law_sack") (PySem.Str.ofString "_law_sack") (topS 67) fa fd) : ∀ e ∈ kws, e.1 = (PySem.Str.ofString "_law_sack") → KBinds K fd [(PySem.Str.ofString "script"), (PySem.Str.ofString "at")] e.2.2.1 (permW e.2.1 e.2.2.1.length e.2.2.2) (permW e.2.1 e.2.2.1.length e.2.2.2) := by
  unfold kws
  simp only [List.forall_mem_cons, List.not_mem_nil, false_implies, implies_true, and_true]
  exact fun h => absurd h (by decide +kernel)
theorem def__law_sack {K : PySem.W.Frag} {mg : Str → Option Value} {h : Heap} (X : K.In h) (G : h.Ns mainGlobals mg) {fa : Addr} {fd : FuncData} (F : Fun K (PySem.Str.ofString "_law_sack") (PySem.Str.ofString "_law_sack") (topS 67) fa fd) (a : PySem.W.nsIn K mainGlobals (PySem.Str.ofString "_law_sack") = some (some (.ref fa))) : DefOk K mg kws ot S__law_sack (PySem.Str.ofString "_law_sack") D__law_sack [(PySem.Str.ofString "script"), (PySem.Str.ofString "at")] (topS 67) fa fd (PySem.Str.ofString "_law_sack") (PySem.Str.ofString "_law_sack") :=
  ⟨F, fun _ => PySem.W.mg_of X G a, F.binds (fun _ _ _ _ _ _ us hl => match us, hl with | [_, _], _ => rfl), sc__law_sack, rfl, rfl, rfl, rfl, fun n ks perm hm => kb__law_sack F _ hm rfl, fun C n hl he => by
    have key : ∀ e ∈ ot.mks, (PySem.Str.ofString "_law_sack") = initOf e.1 → ∃ Ca, mg e.1 = some (.ref Ca) ∧ PySem.W.nsIn K mainGlobals e.1 = some (some (.ref Ca)) ∧ ObC K Ca ∧ Mk K Ca fa := by
      unfold ot
      simp only [List.forall_mem_cons, List.not_mem_nil, false_implies, implies_true, and_true]
      exact fun h => absurd h (by decide +kernel)
    exact key (C, n) (PySem.mem_of_lookup hl) he, fun C m hm he => by
    have key : ∀ e ∈ ot.sms, (PySem.Str.ofString "_law_sack") = statOf e.1 e.2 → ∃ Ca, mg e.1 = some (.ref Ca) ∧ SMet K Ca e.2 fa := by
      unfold ot
      simp only [List.forall_mem_cons, List.not_mem_nil, false_implies, implies_true, and_true]
      exact fun h => absurd h (by decide +kernel)
    exact key (C, m) hm he⟩
theorem ok__law_sack {K : PySem.W.Frag} {mg : Str → Option Value} {h : Heap} (X : K.In h) (G : h.Ns mainGlobals mg) (D : DA K (PySem.Str.ofString "_law_sack") 67) : AtTab K mg con fns kws ot ((PySem.Str.ofString "_law_sack"), D__law_sack) := by
  obtain ⟨fa, fd, F, a⟩ := D
  exact ⟨S__law_sack, [(PySem.Str.ofString "script"), (PySem.Str.ofString "at")], (topS 67), fa, fd, (PySem.Str.ofString "_law_sack"), (PySem.Str.ofString "_law_sack"), def__law_sack X G F a, rfl, rfl, ⟨rfl, rfl, rfl⟩, rfl⟩
theorem sc__law_dip : FnScope S__law_dip.N [(PySem.Str.ofString "sack"), (PySem.Str.ofString "below")] (defScope (topS 68)) := ⟨rfl, rfl, rfl, by decide +kernel, rfl, by decide +kernel, by decide +kernel⟩
theorem kb__law_dip {K : PySem.W.Frag} {fa : Addr} {fd : FuncData} (F : Fun K (PySem.Str.ofString "_law_dip") (PySem.Str.ofString "_law_dip") (topS 68) fa fd) : ∀ e ∈ kws, e.1 = (PySem.Str.ofString "_law_dip") → KBinds K fd [(PySem.Str.ofString "sack"), (PySem.Str.ofString "below")] e.2.2.1 (permW e.2.1 e.2.2.1.length e.2.2.2) (permW e.2.1 e.2.2.1.length e.2.2.2) := by
  unfold kws
  simp only [List.forall_mem_cons, List.not_mem_nil, false_implies, implies_true, and_true]
  exact fun h => absurd h (by decide +kernel)
theorem def__law_dip {K : PySem.W.Frag} {mg : Str → Option Value} {h : Heap} (X : K.In h) (G : h.Ns mainGlobals mg) {fa : Addr} {fd : FuncData} (F : Fun K (PySem.Str.ofString "_law_dip") (PySem.Str.ofString "_law_dip") (topS 68) fa fd) (a : PySem.W.nsIn K mainGlobals (PySem.Str.ofString "_law_dip") = some (some (.ref fa))) : DefOk K mg kws ot S__law_dip (PySem.Str.ofString "_law_dip") D__law_dip [(PySem.Str.ofString "sack"), (PySem.Str.ofString "below")] (topS 68) fa fd (PySem.Str.ofString "_law_dip") (PySem.Str.ofString "_law_dip") :=
  ⟨F, fun _ => PySem.W.mg_of X G a, F.binds (fun _ _ _ _ _ _ us hl => match us, hl with | [_, _], _ => rfl), sc__law_dip, rfl, rfl, rfl, rfl, fun n ks perm hm => kb__law_dip F _ hm rfl, fun C n hl he => by
    have key : ∀ e ∈ ot.mks, (PySem.Str.ofString "_law_dip") = initOf e.1 → ∃ Ca, mg e.1 = some (.ref Ca) ∧ PySem.W.nsIn K mainGlobals e.1 = some (some (.ref Ca)) ∧ ObC K Ca ∧ Mk K Ca fa := by
      unfold ot
      simp only [List.forall_mem_cons, List.not_mem_nil, false_implies, implies_true, and_true]
      exact fun h => absurd h (by decide +kernel)
    exact key (C, n) (PySem.mem_of_lookup hl) he, fun C m hm he => by
    have key : ∀ e ∈ ot.sms, (PySem.Str.ofString "_law_dip") = statOf e.1 e.2 → ∃ Ca, mg e.1 = some (.ref Ca) ∧ SMet K Ca e.2 fa := by
      unfold ot
      simp only [List.forall_mem_cons, List.not_mem_nil, false_implies, implies_true, and_true]
      exact fun h => absurd h (by decide +kernel)
    exact key (C, m) hm he⟩
theorem ok__law_dip {K : PySem.W.Frag} {mg : Str → Option Value} {h : Heap} (X : K.In h) (G : h.Ns mainGlobals mg) (D : DA K (PySem.Str.ofString "_law_dip") 68) : AtTab K mg con fns kws ot ((PySem.Str.ofString "_law_dip"), D__law_dip) := by
  obtain ⟨fa, fd, F, a⟩ := D
  exact ⟨S__law_dip, [(PySem.Str.ofString "sack"), (PySem.Str.ofString "below")], (topS 68), fa, fd, (PySem.Str.ofString "_law_dip"), (PySem.Str.ofString "_law_dip"), def__law_dip X G F a, rfl, rfl, ⟨rfl, rfl, rfl⟩, rfl⟩
theorem sc__law_twin : FnScope S__law_twin.N [(PySem.Str.ofString "found"), (PySem.Str.ofString "due")] (defScope (topS 69)) := ⟨rfl, rfl, rfl, by decide +kernel, rfl, by decide +kernel, by decide +kernel⟩
theorem kb__law_twin {K : PySem.W.Frag} {fa : Addr} {fd : FuncData} (F : Fun K (PySem.Str.ofString "_law_twin") (PySem.Str.ofString "_law_twin") (topS 69) fa fd) : ∀ e ∈ kws, e.1 = (PySem.Str.ofString "_law_twin") → KBinds K fd [(PySem.Str.ofString "found"), (PySem.Str.ofString "due")] e.2.2.1 (permW e.2.1 e.2.2.1.length e.2.2.2) (permW e.2.1 e.2.2.1.length e.2.2.2) := by
  unfold kws
  simp only [List.forall_mem_cons, List.not_mem_nil, false_implies, implies_true, and_true]
  exact fun h => absurd h (by decide +kernel)
theorem def__law_twin {K : PySem.W.Frag} {mg : Str → Option Value} {h : Heap} (X : K.In h) (G : h.Ns mainGlobals mg) {fa : Addr} {fd : FuncData} (F : Fun K (PySem.Str.ofString "_law_twin") (PySem.Str.ofString "_law_twin") (topS 69) fa fd) (a : PySem.W.nsIn K mainGlobals (PySem.Str.ofString "_law_twin") = some (some (.ref fa))) : DefOk K mg kws ot S__law_twin (PySem.Str.ofString "_law_twin") D__law_twin [(PySem.Str.ofString "found"), (PySem.Str.ofString "due")] (topS 69) fa fd (PySem.Str.ofString "_law_twin") (PySem.Str.ofString "_law_twin") :=
  ⟨F, fun _ => PySem.W.mg_of X G a, F.binds (fun _ _ _ _ _ _ us hl => match us, hl with | [_, _], _ => rfl), sc__law_twin, rfl, rfl, rfl, rfl, fun n ks perm hm => kb__law_twin F _ hm rfl, fun C n hl he => by
    have key : ∀ e ∈ ot.mks, (PySem.Str.ofString "_law_twin") = initOf e.1 → ∃ Ca, mg e.1 = some (.ref Ca) ∧ PySem.W.nsIn K mainGlobals e.1 = some (some (.ref Ca)) ∧ ObC K Ca ∧ Mk K Ca fa := by
      unfold ot
      simp only [List.forall_mem_cons, List.not_mem_nil, false_implies, implies_true, and_true]
      exact fun h => absurd h (by decide +kernel)
    exact key (C, n) (PySem.mem_of_lookup hl) he, fun C m hm he => by
    have key : ∀ e ∈ ot.sms, (PySem.Str.ofString "_law_twin") = statOf e.1 e.2 → ∃ Ca, mg e.1 = some (.ref Ca) ∧ SMet K Ca e.2 fa := by
      unfold ot
      simp only [List.forall_mem_cons, List.not_mem_nil, false_implies, implies_true, and_true]
      exact fun h => absurd h (by decide +kernel)
    exact key (C, m) hm he⟩
theorem ok__law_twin {K : PySem.W.Frag} {mg : Str → Option Value} {h : Heap} (X : K.In h) (G : h.Ns mainGlobals mg) (D : DA K (PySem.Str.ofString "_law_twin") 69) : AtTab K mg con fns kws ot ((PySem.Str.ofString "_law_twin"), D__law_twin) := by
  obtain ⟨fa, fd, F, a⟩ := D
  exact ⟨S__law_twin, [(PySem.Str.ofString "found"), (PySem.Str.ofString "due")], (topS 69), fa, fd, (PySem.Str.ofString "_law_twin"), (PySem.Str.ofString "_law_twin"), def__law_twin X G F a, rfl, rfl, ⟨rfl, rfl, rfl⟩, rfl⟩
theorem sc__law_jobs : FnScope S__law_jobs.N [(PySem.Str.ofString "sack"), (PySem.Str.ofString "points"), (PySem.Str.ofString "many_here"), (PySem.Str.ofString "great")] (defScope (topS 70)) := ⟨rfl, rfl, rfl, by decide +kernel, rfl, by decide +kernel, by decide +kernel⟩
theorem kb__law_jobs {K : PySem.W.Frag} {fa : Addr} {fd : FuncData} (F : Fun K (PySem.Str.ofString "_law_jobs") (PySem.Str.ofString "_law_jobs") (topS 70) fa fd) : ∀ e ∈ kws, e.1 = (PySem.Str.ofString "_law_jobs") → KBinds K fd [(PySem.Str.ofString "sack"), (PySem.Str.ofString "points"), (PySem.Str.ofString "many_here"), (PySem.Str.ofString "great")] e.2.2.1 (permW e.2.1 e.2.2.1.length e.2.2.2) (permW e.2.1 e.2.2.1.length e.2.2.2) := by
  unfold kws
  simp only [List.forall_mem_cons, List.not_mem_nil, false_implies, implies_true, and_true]
  exact fun h => absurd h (by decide +kernel)
theorem def__law_jobs {K : PySem.W.Frag} {mg : Str → Option Value} {h : Heap} (X : K.In h) (G : h.Ns mainGlobals mg) {fa : Addr} {fd : FuncData} (F : Fun K (PySem.Str.ofString "_law_jobs") (PySem.Str.ofString "_law_jobs") (topS 70) fa fd) (a : PySem.W.nsIn K mainGlobals (PySem.Str.ofString "_law_jobs") = some (some (.ref fa))) : DefOk K mg kws ot S__law_jobs (PySem.Str.ofString "_law_jobs") D__law_jobs [(PySem.Str.ofString "sack"), (PySem.Str.ofString "points"), (PySem.Str.ofString "many_here"), (PySem.Str.ofString "great")] (topS 70) fa fd (PySem.Str.ofString "_law_jobs") (PySem.Str.ofString "_law_jobs") :=
  ⟨F, fun _ => PySem.W.mg_of X G a, F.binds (fun _ _ _ _ _ _ us hl => match us, hl with | [_, _, _, _], _ => rfl), sc__law_jobs, rfl, rfl, rfl, rfl, fun n ks perm hm => kb__law_jobs F _ hm rfl, fun C n hl he => by
    have key : ∀ e ∈ ot.mks, (PySem.Str.ofString "_law_jobs") = initOf e.1 → ∃ Ca, mg e.1 = some (.ref Ca) ∧ PySem.W.nsIn K mainGlobals e.1 = some (some (.ref Ca)) ∧ ObC K Ca ∧ Mk K Ca fa := by
      unfold ot
      simp only [List.forall_mem_cons, List.not_mem_nil, false_implies, implies_true, and_true]
      exact fun h => absurd h (by decide +kernel)
    exact key (C, n) (PySem.mem_of_lookup hl) he, fun C m hm he => by
    have key : ∀ e ∈ ot.sms, (PySem.Str.ofString "_law_jobs") = statOf e.1 e.2 → ∃ Ca, mg e.1 = some (.ref Ca) ∧ SMet K Ca e.2 fa := by
      unfold ot
      simp only [List.forall_mem_cons, List.not_mem_nil, false_implies, implies_true, and_true]
      exact fun h => absurd h (by decide +kernel)
    exact key (C, m) hm he⟩
theorem ok__law_jobs {K : PySem.W.Frag} {mg : Str → Option Value} {h : Heap} (X : K.In h) (G : h.Ns mainGlobals mg) (D : DA K (PySem.Str.ofString "_law_jobs") 70) : AtTab K mg con fns kws ot ((PySem.Str.ofString "_law_jobs"), D__law_jobs) := by
  obtain ⟨fa, fd, F, a⟩ := D
  exact ⟨S__law_jobs, [(PySem.Str.ofString "sack"), (PySem.Str.ofString "points"), (PySem.Str.ofString "many_here"), (PySem.Str.ofString "great")], (topS 70), fa, fd, (PySem.Str.ofString "_law_jobs"), (PySem.Str.ofString "_law_jobs"), def__law_jobs X G F a, rfl, rfl, ⟨rfl, rfl, rfl⟩, rfl⟩
theorem sc__law_worth : FnScope S__law_worth.N [(PySem.Str.ofString "plan_here"), (PySem.Str.ofString "moments_here"), (PySem.Str.ofString "point")] (defScope (topS 71)) := ⟨rfl, rfl, rfl, by decide +kernel, rfl, by decide +kernel, by decide +kernel⟩
theorem kb__law_worth {K : PySem.W.Frag} {fa : Addr} {fd : FuncData} (F : Fun K (PySem.Str.ofString "_law_worth") (PySem.Str.ofString "_law_worth") (topS 71) fa fd) : ∀ e ∈ kws, e.1 = (PySem.Str.ofString "_law_worth") → KBinds K fd [(PySem.Str.ofString "plan_here"), (PySem.Str.ofString "moments_here"), (PySem.Str.ofString "point")] e.2.2.1 (permW e.2.1 e.2.2.1.length e.2.2.2) (permW e.2.1 e.2.2.1.length e.2.2.2) := by
  unfold kws
  simp only [List.forall_mem_cons, List.not_mem_nil, false_implies, implies_true, and_true]
  exact fun h => absurd h (by decide +kernel)
theorem def__law_worth {K : PySem.W.Frag} {mg : Str → Option Value} {h : Heap} (X : K.In h) (G : h.Ns mainGlobals mg) {fa : Addr} {fd : FuncData} (F : Fun K (PySem.Str.ofString "_law_worth") (PySem.Str.ofString "_law_worth") (topS 71) fa fd) (a : PySem.W.nsIn K mainGlobals (PySem.Str.ofString "_law_worth") = some (some (.ref fa))) : DefOk K mg kws ot S__law_worth (PySem.Str.ofString "_law_worth") D__law_worth [(PySem.Str.ofString "plan_here"), (PySem.Str.ofString "moments_here"), (PySem.Str.ofString "point")] (topS 71) fa fd (PySem.Str.ofString "_law_worth") (PySem.Str.ofString "_law_worth") :=
  ⟨F, fun _ => PySem.W.mg_of X G a, F.binds (fun _ _ _ _ _ _ us hl => match us, hl with | [_, _, _], _ => rfl), sc__law_worth, rfl, rfl, rfl, rfl, fun n ks perm hm => kb__law_worth F _ hm rfl, fun C n hl he => by
    have key : ∀ e ∈ ot.mks, (PySem.Str.ofString "_law_worth") = initOf e.1 → ∃ Ca, mg e.1 = some (.ref Ca) ∧ PySem.W.nsIn K mainGlobals e.1 = some (some (.ref Ca)) ∧ ObC K Ca ∧ Mk K Ca fa := by
      unfold ot
      simp only [List.forall_mem_cons, List.not_mem_nil, false_implies, implies_true, and_true]
      exact fun h => absurd h (by decide +kernel)
    exact key (C, n) (PySem.mem_of_lookup hl) he, fun C m hm he => by
    have key : ∀ e ∈ ot.sms, (PySem.Str.ofString "_law_worth") = statOf e.1 e.2 → ∃ Ca, mg e.1 = some (.ref Ca) ∧ SMet K Ca e.2 fa := by
      unfold ot
      simp only [List.forall_mem_cons, List.not_mem_nil, false_implies, implies_true, and_true]
      exact fun h => absurd h (by decide +kernel)
    exact key (C, m) hm he⟩
theorem ok__law_worth {K : PySem.W.Frag} {mg : Str → Option Value} {h : Heap} (X : K.In h) (G : h.Ns mainGlobals mg) (D : DA K (PySem.Str.ofString "_law_worth") 71) : AtTab K mg con fns kws ot ((PySem.Str.ofString "_law_worth"), D__law_worth) := by
  obtain ⟨fa, fd, F, a⟩ := D
  exact ⟨S__law_worth, [(PySem.Str.ofString "plan_here"), (PySem.Str.ofString "moments_here"), (PySem.Str.ofString "point")], (topS 71), fa, fd, (PySem.Str.ofString "_law_worth"), (PySem.Str.ofString "_law_worth"), def__law_worth X G F a, rfl, rfl, ⟨rfl, rfl, rfl⟩, rfl⟩
theorem sc__law_little : FnScope S__law_little.N [(PySem.Str.ofString "sack"), (PySem.Str.ofString "many_here"), (PySem.Str.ofString "great")] (defScope (topS 72)) := ⟨rfl, rfl, rfl, by decide +kernel, rfl, by decide +kernel, by decide +kernel⟩
theorem kb__law_little {K : PySem.W.Frag} {fa : Addr} {fd : FuncData} (F : Fun K (PySem.Str.ofString "_law_little") (PySem.Str.ofString "_law_little") (topS 72) fa fd) : ∀ e ∈ kws, e.1 = (PySem.Str.ofString "_law_little") → KBinds K fd [(PySem.Str.ofString "sack"), (PySem.Str.ofString "many_here"), (PySem.Str.ofString "great")] e.2.2.1 (permW e.2.1 e.2.2.1.length e.2.2.2) (permW e.2.1 e.2.2.1.length e.2.2.2) := by
  unfold kws
  simp only [List.forall_mem_cons, List.not_mem_nil, false_implies, implies_true, and_true]
  exact fun h => absurd h (by decide +kernel)
theorem def__law_little {K : PySem.W.Frag} {mg : Str → Option Value} {h : Heap} (X : K.In h) (G : h.Ns mainGlobals mg) {fa : Addr} {fd : FuncData} (F : Fun K (PySem.Str.ofString "_law_little") (PySem.Str.ofString "_law_little") (topS 72) fa fd) (a : PySem.W.nsIn K mainGlobals (PySem.Str.ofString "_law_little") = some (some (.ref fa))) : DefOk K mg kws ot S__law_little (PySem.Str.ofString "_law_little") D__law_little [(PySem.Str.ofString "sack"), (PySem.Str.ofString "many_here"), (PySem.Str.ofString "great")] (topS 72) fa fd (PySem.Str.ofString "_law_little") (PySem.Str.ofString "_law_little") :=
  ⟨F, fun _ => PySem.W.mg_of X G a, F.binds (fun _ _ _ _ _ _ us hl => match us, hl with | [_, _, _], _ => rfl), sc__law_little, rfl, rfl, rfl, rfl, fun n ks perm hm => kb__law_little F _ hm rfl, fun C n hl he => by
    have key : ∀ e ∈ ot.mks, (PySem.Str.ofString "_law_little") = initOf e.1 → ∃ Ca, mg e.1 = some (.ref Ca) ∧ PySem.W.nsIn K mainGlobals e.1 = some (some (.ref Ca)) ∧ ObC K Ca ∧ Mk K Ca fa := by
      unfold ot
      simp only [List.forall_mem_cons, List.not_mem_nil, false_implies, implies_true, and_true]
      exact fun h => absurd h (by decide +kernel)
    exact key (C, n) (PySem.mem_of_lookup hl) he, fun C m hm he => by
    have key : ∀ e ∈ ot.sms, (PySem.Str.ofString "_law_little") = statOf e.1 e.2 → ∃ Ca, mg e.1 = some (.ref Ca) ∧ SMet K Ca e.2 fa := by
      unfold ot
      simp only [List.forall_mem_cons, List.not_mem_nil, false_implies, implies_true, and_true]
      exact fun h => absurd h (by decide +kernel)
    exact key (C, m) hm he⟩
theorem ok__law_little {K : PySem.W.Frag} {mg : Str → Option Value} {h : Heap} (X : K.In h) (G : h.Ns mainGlobals mg) (D : DA K (PySem.Str.ofString "_law_little") 72) : AtTab K mg con fns kws ot ((PySem.Str.ofString "_law_little"), D__law_little) := by
  obtain ⟨fa, fd, F, a⟩ := D
  exact ⟨S__law_little, [(PySem.Str.ofString "sack"), (PySem.Str.ofString "many_here"), (PySem.Str.ofString "great")], (topS 72), fa, fd, (PySem.Str.ofString "_law_little"), (PySem.Str.ofString "_law_little"), def__law_little X G F a, rfl, rfl, ⟨rfl, rfl, rfl⟩, rfl⟩
theorem sc__law_own : FnScope S__law_own.N [(PySem.Str.ofString "plan_here")] (defScope (topS 73)) := ⟨rfl, rfl, rfl, by decide +kernel, rfl, by decide +kernel, by decide +kernel⟩
theorem kb__law_own {K : PySem.W.Frag} {fa : Addr} {fd : FuncData} (F : Fun K (PySem.Str.ofString "_law_own") (PySem.Str.ofString "_law_own") (topS 73) fa fd) : ∀ e ∈ kws, e.1 = (PySem.Str.ofString "_law_own") → KBinds K fd [(PySem.Str.ofString "plan_here")] e.2.2.1 (permW e.2.1 e.2.2.1.length e.2.2.2) (permW e.2.1 e.2.2.1.length e.2.2.2) := by
  unfold kws
  simp only [List.forall_mem_cons, List.not_mem_nil, false_implies, implies_true, and_true]
  exact fun h => absurd h (by decide +kernel)
theorem def__law_own {K : PySem.W.Frag} {mg : Str → Option Value} {h : Heap} (X : K.In h) (G : h.Ns mainGlobals mg) {fa : Addr} {fd : FuncData} (F : Fun K (PySem.Str.ofString "_law_own") (PySem.Str.ofString "_law_own") (topS 73) fa fd) (a : PySem.W.nsIn K mainGlobals (PySem.Str.ofString "_law_own") = some (some (.ref fa))) : DefOk K mg kws ot S__law_own (PySem.Str.ofString "_law_own") D__law_own [(PySem.Str.ofString "plan_here")] (topS 73) fa fd (PySem.Str.ofString "_law_own") (PySem.Str.ofString "_law_own") :=
  ⟨F, fun _ => PySem.W.mg_of X G a, F.binds (fun _ _ _ _ _ _ us hl => match us, hl with | [_], _ => rfl), sc__law_own, rfl, rfl, rfl, rfl, fun n ks perm hm => kb__law_own F _ hm rfl, fun C n hl he => by
    have key : ∀ e ∈ ot.mks, (PySem.Str.ofString "_law_own") = initOf e.1 → ∃ Ca, mg e.1 = some (.ref Ca) ∧ PySem.W.nsIn K mainGlobals e.1 = some (some (.ref Ca)) ∧ ObC K Ca ∧ Mk K Ca fa := by
      unfold ot
      simp only [List.forall_mem_cons, List.not_mem_nil, false_implies, implies_true, and_true]
      exact fun h => absurd h (by decide +kernel)
    exact key (C, n) (PySem.mem_of_lookup hl) he, fun C m hm he => by
    have key : ∀ e ∈ ot.sms, (PySem.Str.ofString "_law_own") = statOf e.1 e.2 → ∃ Ca, mg e.1 = some (.ref Ca) ∧ SMet K Ca e.2 fa := by
      unfold ot
      simp only [List.forall_mem_cons, List.not_mem_nil, false_implies, implies_true, and_true]
      exact fun h => absurd h (by decide +kernel)
    exact key (C, m) hm he⟩
theorem ok__law_own {K : PySem.W.Frag} {mg : Str → Option Value} {h : Heap} (X : K.In h) (G : h.Ns mainGlobals mg) (D : DA K (PySem.Str.ofString "_law_own") 73) : AtTab K mg con fns kws ot ((PySem.Str.ofString "_law_own"), D__law_own) := by
  obtain ⟨fa, fd, F, a⟩ := D
  exact ⟨S__law_own, [(PySem.Str.ofString "plan_here")], (topS 73), fa, fd, (PySem.Str.ofString "_law_own"), (PySem.Str.ofString "_law_own"), def__law_own X G F a, rfl, rfl, ⟨rfl, rfl, rfl⟩, rfl⟩
theorem sc__law_put : FnScope S__law_put.N [(PySem.Str.ofString "plan_here"), (PySem.Str.ofString "moments_here"), (PySem.Str.ofString "point"), (PySem.Str.ofString "moment")] (defScope (topS 74)) := ⟨rfl, rfl, rfl, by decide +kernel, rfl, by decide +kernel, by decide +kernel⟩
theorem kb__law_put {K : PySem.W.Frag} {fa : Addr} {fd : FuncData} (F : Fun K (PySem.Str.ofString "_law_put") (PySem.Str.ofString "_law_put") (topS 74) fa fd) : ∀ e ∈ kws, e.1 = (PySem.Str.ofString "_law_put") → KBinds K fd [(PySem.Str.ofString "plan_here"), (PySem.Str.ofString "moments_here"), (PySem.Str.ofString "point"), (PySem.Str.ofString "moment")] e.2.2.1 (permW e.2.1 e.2.2.1.length e.2.2.2) (permW e.2.1 e.2.2.1.length e.2.2.2) := by
  unfold kws
  simp only [List.forall_mem_cons, List.not_mem_nil, false_implies, implies_true, and_true]
  exact fun h => absurd h (by decide +kernel)
theorem def__law_put {K : PySem.W.Frag} {mg : Str → Option Value} {h : Heap} (X : K.In h) (G : h.Ns mainGlobals mg) {fa : Addr} {fd : FuncData} (F : Fun K (PySem.Str.ofString "_law_put") (PySem.Str.ofString "_law_put") (topS 74) fa fd) (a : PySem.W.nsIn K mainGlobals (PySem.Str.ofString "_law_put") = some (some (.ref fa))) : DefOk K mg kws ot S__law_put (PySem.Str.ofString "_law_put") D__law_put [(PySem.Str.ofString "plan_here"), (PySem.Str.ofString "moments_here"), (PySem.Str.ofString "point"), (PySem.Str.ofString "moment")] (topS 74) fa fd (PySem.Str.ofString "_law_put") (PySem.Str.ofString "_law_put") :=
  ⟨F, fun _ => PySem.W.mg_of X G a, F.binds (fun _ _ _ _ _ _ us hl => match us, hl with | [_, _, _, _], _ => rfl), sc__law_put, rfl, rfl, rfl, rfl, fun n ks perm hm => kb__law_put F _ hm rfl, fun C n hl he => by
    have key : ∀ e ∈ ot.mks, (PySem.Str.ofString "_law_put") = initOf e.1 → ∃ Ca, mg e.1 = some (.ref Ca) ∧ PySem.W.nsIn K mainGlobals e.1 = some (some (.ref Ca)) ∧ ObC K Ca ∧ Mk K Ca fa := by
      unfold ot
      simp only [List.forall_mem_cons, List.not_mem_nil, false_implies, implies_true, and_true]
      exact fun h => absurd h (by decide +kernel)
    exact key (C, n) (PySem.mem_of_lookup hl) he, fun C m hm he => by
    have key : ∀ e ∈ ot.sms, (PySem.Str.ofString "_law_put") = statOf e.1 e.2 → ∃ Ca, mg e.1 = some (.ref Ca) ∧ SMet K Ca e.2 fa := by
      unfold ot
      simp only [List.forall_mem_cons, List.not_mem_nil, false_implies, implies_true, and_true]
      exact fun h => absurd h (by decide +kernel)
    exact key (C, m) hm he⟩
theorem ok__law_put {K : PySem.W.Frag} {mg : Str → Option Value} {h : Heap} (X : K.In h) (G : h.Ns mainGlobals mg) (D : DA K (PySem.Str.ofString "_law_put") 74) : AtTab K mg con fns kws ot ((PySem.Str.ofString "_law_put"), D__law_put) := by
  obtain ⟨fa, fd, F, a⟩ := D
  exact ⟨S__law_put, [(PySem.Str.ofString "plan_here"), (PySem.Str.ofString "moments_here"), (PySem.Str.ofString "point"), (PySem.Str.ofString "moment")], (topS 74), fa, fd, (PySem.Str.ofString "_law_put"), (PySem.Str.ofString "_law_put"), def__law_put X G F a, rfl, rfl, ⟨rfl, rfl, rfl⟩, rfl⟩
theorem sc__law_starts : FnScope S__law_starts.N [(PySem.Str.ofString "plan_here"), (PySem.Str.ofString "now"), (PySem.Str.ofString "moments_here")] (defScope (topS 75)) := ⟨rfl, rfl, rfl, by decide +kernel, rfl, by decide +kernel, by decide +kernel⟩
theorem kb__law_starts {K : PySem.W.Frag} {fa : Addr} {fd : FuncData} (F : Fun K (PySem.Str.ofString "_law_starts") (PySem.Str.ofString "_law_starts") (topS 75) fa fd) : ∀ e ∈ kws, e.1 = (PySem.Str.ofString "_law_starts") → KBinds K fd [(PySem.Str.ofString "plan_here"), (PySem.Str.ofString "now"), (PySem.Str.ofString "moments_here")] e.2.2.1 (permW e.2.1 e.2.2.1.length e.2.2.2) (permW e.2.1 e.2.2.1.length e.2.2.2) := by
  unfold kws
  simp only [List.forall_mem_cons, List.not_mem_nil, false_implies, implies_true, and_true]
  exact fun h => absurd h (by decide +kernel)
theorem def__law_starts {K : PySem.W.Frag} {mg : Str → Option Value} {h : Heap} (X : K.In h) (G : h.Ns mainGlobals mg) {fa : Addr} {fd : FuncData} (F : Fun K (PySem.Str.ofString "_law_starts") (PySem.Str.ofString "_law_starts") (topS 75) fa fd) (a : PySem.W.nsIn K mainGlobals (PySem.Str.ofString "_law_starts") = some (some (.ref fa))) : DefOk K mg kws ot S__law_starts (PySem.Str.ofString "_law_starts") D__law_starts [(PySem.Str.ofString "plan_here"), (PySem.Str.ofString "now"), (PySem.Str.ofString "moments_here")] (topS 75) fa fd (PySem.Str.ofString "_law_starts") (PySem.Str.ofString "_law_starts") :=
  ⟨F, fun _ => PySem.W.mg_of X G a, F.binds (fun _ _ _ _ _ _ us hl => match us, hl with | [_, _, _], _ => rfl), sc__law_starts, rfl, rfl, rfl, rfl, fun n ks perm hm => kb__law_starts F _ hm rfl, fun C n hl he => by
    have key : ∀ e ∈ ot.mks, (PySem.Str.ofString "_law_starts") = initOf e.1 → ∃ Ca, mg e.1 = some (.ref Ca) ∧ PySem.W.nsIn K mainGlobals e.1 = some (some (.ref Ca)) ∧ ObC K Ca ∧ Mk K Ca fa := by
      unfold ot
      simp only [List.forall_mem_cons, List.not_mem_nil, false_implies, implies_true, and_true]
      exact fun h => absurd h (by decide +kernel)
    exact key (C, n) (PySem.mem_of_lookup hl) he, fun C m hm he => by
    have key : ∀ e ∈ ot.sms, (PySem.Str.ofString "_law_starts") = statOf e.1 e.2 → ∃ Ca, mg e.1 = some (.ref Ca) ∧ SMet K Ca e.2 fa := by
      unfold ot
      simp only [List.forall_mem_cons, List.not_mem_nil, false_implies, implies_true, and_true]
      exact fun h => absurd h (by decide +kernel)
    exact key (C, m) hm he⟩
theorem ok__law_starts {K : PySem.W.Frag} {mg : Str → Option Value} {h : Heap} (X : K.In h) (G : h.Ns mainGlobals mg) (D : DA K (PySem.Str.ofString "_law_starts") 75) : AtTab K mg con fns kws ot ((PySem.Str.ofString "_law_starts"), D__law_starts) := by
  obtain ⟨fa, fd, F, a⟩ := D
  exact ⟨S__law_starts, [(PySem.Str.ofString "plan_here"), (PySem.Str.ofString "now"), (PySem.Str.ofString "moments_here")], (topS 75), fa, fd, (PySem.Str.ofString "_law_starts"), (PySem.Str.ofString "_law_starts"), def__law_starts X G F a, rfl, rfl, ⟨rfl, rfl, rfl⟩, rfl⟩
theorem sc__law_stops : FnScope S__law_stops.N [(PySem.Str.ofString "plan_here"), (PySem.Str.ofString "now"), (PySem.Str.ofString "moments_here")] (defScope (topS 76)) := ⟨rfl, rfl, rfl, by decide +kernel, rfl, by decide +kernel, by decide +kernel⟩
theorem kb__law_stops {K : PySem.W.Frag} {fa : Addr} {fd : FuncData} (F : Fun K (PySem.Str.ofString "_law_stops") (PySem.Str.ofString "_law_stops") (topS 76) fa fd) : ∀ e ∈ kws, e.1 = (PySem.Str.ofString "_law_stops") → KBinds K fd [(PySem.Str.ofString "plan_here"), (PySem.Str.ofString "now"), (PySem.Str.ofString "moments_here")] e.2.2.1 (permW e.2.1 e.2.2.1.length e.2.2.2) (permW e.2.1 e.2.2.1.length e.2.2.2) := by
  unfold kws
  simp only [List.forall_mem_cons, List.not_mem_nil, false_implies, implies_true, and_true]
  exact fun h => absurd h (by decide +kernel)
theorem def__law_stops {K : PySem.W.Frag} {mg : Str → Option Value} {h : Heap} (X : K.In h) (G : h.Ns mainGlobals mg) {fa : Addr} {fd : FuncData} (F : Fun K (PySem.Str.ofString "_law_stops") (PySem.Str.ofString "_law_stops") (topS 76) fa fd) (a : PySem.W.nsIn K mainGlobals (PySem.Str.ofString "_law_stops") = some (some (.ref fa))) : DefOk K mg kws ot S__law_stops (PySem.Str.ofString "_law_stops") D__law_stops [(PySem.Str.ofString "plan_here"), (PySem.Str.ofString "now"), (PySem.Str.ofString "moments_here")] (topS 76) fa fd (PySem.Str.ofString "_law_stops") (PySem.Str.ofString "_law_stops") :=
  ⟨F, fun _ => PySem.W.mg_of X G a, F.binds (fun _ _ _ _ _ _ us hl => match us, hl with | [_, _, _], _ => rfl), sc__law_stops, rfl, rfl, rfl, rfl, fun n ks perm hm => kb__law_stops F _ hm rfl, fun C n hl he => by
    have key : ∀ e ∈ ot.mks, (PySem.Str.ofString "_law_stops") = initOf e.1 → ∃ Ca, mg e.1 = some (.ref Ca) ∧ PySem.W.nsIn K mainGlobals e.1 = some (some (.ref Ca)) ∧ ObC K Ca ∧ Mk K Ca fa := by
      unfold ot
      simp only [List.forall_mem_cons, List.not_mem_nil, false_implies, implies_true, and_true]
      exact fun h => absurd h (by decide +kernel)
    exact key (C, n) (PySem.mem_of_lookup hl) he, fun C m hm he => by
    have key : ∀ e ∈ ot.sms, (PySem.Str.ofString "_law_stops") = statOf e.1 e.2 → ∃ Ca, mg e.1 = some (.ref Ca) ∧ SMet K Ca e.2 fa := by
      unfold ot
      simp only [List.forall_mem_cons, List.not_mem_nil, false_implies, implies_true, and_true]
      exact fun h => absurd h (by decide +kernel)
    exact key (C, m) hm he⟩
theorem ok__law_stops {K : PySem.W.Frag} {mg : Str → Option Value} {h : Heap} (X : K.In h) (G : h.Ns mainGlobals mg) (D : DA K (PySem.Str.ofString "_law_stops") 76) : AtTab K mg con fns kws ot ((PySem.Str.ofString "_law_stops"), D__law_stops) := by
  obtain ⟨fa, fd, F, a⟩ := D
  exact ⟨S__law_stops, [(PySem.Str.ofString "plan_here"), (PySem.Str.ofString "now"), (PySem.Str.ofString "moments_here")], (topS 76), fa, fd, (PySem.Str.ofString "_law_stops"), (PySem.Str.ofString "_law_stops"), def__law_stops X G F a, rfl, rfl, ⟨rfl, rfl, rfl⟩, rfl⟩
theorem sc__law_nothing : FnScope S__law_nothing.N [(PySem.Str.ofString "plan_here")] (defScope (topS 77)) := ⟨rfl, rfl, rfl, by decide +kernel, rfl, by decide +kernel, by decide +kernel⟩
theorem kb__law_nothing {K : PySem.W.Frag} {fa : Addr} {fd : FuncData} (F : Fun K (PySem.Str.ofString "_law_nothing") (PySem.Str.ofString "_law_nothing") (topS 77) fa fd) : ∀ e ∈ kws, e.1 = (PySem.Str.ofString "_law_nothing") → KBinds K fd [(PySem.Str.ofString "plan_here")] e.2.2.1 (permW e.2.1 e.2.2.1.length e.2.2.2) (permW e.2.1 e.2.2.1.length e.2.2.2) := by
  unfold kws
  simp only [List.forall_mem_cons, List.not_mem_nil, false_implies, implies_true, and_true]
  exact fun h => absurd h (by decide +kernel)
theorem def__law_nothing {K : PySem.W.Frag} {mg : Str → Option Value} {h : Heap} (X : K.In h) (G : h.Ns mainGlobals mg) {fa : Addr} {fd : FuncData} (F : Fun K (PySem.Str.ofString "_law_nothing") (PySem.Str.ofString "_law_nothing") (topS 77) fa fd) (a : PySem.W.nsIn K mainGlobals (PySem.Str.ofString "_law_nothing") = some (some (.ref fa))) : DefOk K mg kws ot S__law_nothing (PySem.Str.ofString "_law_nothing") D__law_nothing [(PySem.Str.ofString "plan_here")] (topS 77) fa fd (PySem.Str.ofString "_law_nothing") (PySem.Str.ofString "_law_nothing") :=
  ⟨F, fun _ => PySem.W.mg_of X G a, F.binds (fun _ _ _ _ _ _ us hl => match us, hl with | [_], _ => rfl), sc__law_nothing, rfl, rfl, rfl, rfl, fun n ks perm hm => kb__law_nothing F _ hm rfl, fun C n hl he => by
    have key : ∀ e ∈ ot.mks, (PySem.Str.ofString "_law_nothing") = initOf e.1 → ∃ Ca, mg e.1 = some (.ref Ca) ∧ PySem.W.nsIn K mainGlobals e.1 = some (some (.ref Ca)) ∧ ObC K Ca ∧ Mk K Ca fa := by
      unfold ot
      simp only [List.forall_mem_cons, List.not_mem_nil, false_implies, implies_true, and_true]
      exact fun h => absurd h (by decide +kernel)
    exact key (C, n) (PySem.mem_of_lookup hl) he, fun C m hm he => by
    have key : ∀ e ∈ ot.sms, (PySem.Str.ofString "_law_nothing") = statOf e.1 e.2 → ∃ Ca, mg e.1 = some (.ref Ca) ∧ SMet K Ca e.2 fa := by
      unfold ot
      simp only [List.forall_mem_cons, List.not_mem_nil, false_implies, implies_true, and_true]
      exact fun h => absurd h (by decide +kernel)
    exact key (C, m) hm he⟩
theorem ok__law_nothing {K : PySem.W.Frag} {mg : Str → Option Value} {h : Heap} (X : K.In h) (G : h.Ns mainGlobals mg) (D : DA K (PySem.Str.ofString "_law_nothing") 77) : AtTab K mg con fns kws ot ((PySem.Str.ofString "_law_nothing"), D__law_nothing) := by
  obtain ⟨fa, fd, F, a⟩ := D
  exact ⟨S__law_nothing, [(PySem.Str.ofString "plan_here")], (topS 77), fa, fd, (PySem.Str.ofString "_law_nothing"), (PySem.Str.ofString "_law_nothing"), def__law_nothing X G F a, rfl, rfl, ⟨rfl, rfl, rfl⟩, rfl⟩
theorem sc__law_walked : FnScope S__law_walked.N [(PySem.Str.ofString "sack"), (PySem.Str.ofString "plan_here"), (PySem.Str.ofString "far")] (defScope (topS 78)) := ⟨rfl, rfl, rfl, by decide +kernel, rfl, by decide +kernel, by decide +kernel⟩
theorem kb__law_walked {K : PySem.W.Frag} {fa : Addr} {fd : FuncData} (F : Fun K (PySem.Str.ofString "_law_walked") (PySem.Str.ofString "_law_walked") (topS 78) fa fd) : ∀ e ∈ kws, e.1 = (PySem.Str.ofString "_law_walked") → KBinds K fd [(PySem.Str.ofString "sack"), (PySem.Str.ofString "plan_here"), (PySem.Str.ofString "far")] e.2.2.1 (permW e.2.1 e.2.2.1.length e.2.2.2) (permW e.2.1 e.2.2.1.length e.2.2.2) := by
  unfold kws
  simp only [List.forall_mem_cons, List.not_mem_nil, false_implies, implies_true, and_true]
  exact fun h => absurd h (by decide +kernel)
theorem def__law_walked {K : PySem.W.Frag} {mg : Str → Option Value} {h : Heap} (X : K.In h) (G : h.Ns mainGlobals mg) {fa : Addr} {fd : FuncData} (F : Fun K (PySem.Str.ofString "_law_walked") (PySem.Str.ofString "_law_walked") (topS 78) fa fd) (a : PySem.W.nsIn K mainGlobals (PySem.Str.ofString "_law_walked") = some (some (.ref fa))) : DefOk K mg kws ot S__law_walked (PySem.Str.ofString "_law_walked") D__law_walked [(PySem.Str.ofString "sack"), (PySem.Str.ofString "plan_here"), (PySem.Str.ofString "far")] (topS 78) fa fd (PySem.Str.ofString "_law_walked") (PySem.Str.ofString "_law_walked") :=
  ⟨F, fun _ => PySem.W.mg_of X G a, F.binds (fun _ _ _ _ _ _ us hl => match us, hl with | [_, _, _], _ => rfl), sc__law_walked, rfl, rfl, rfl, rfl, fun n ks perm hm => kb__law_walked F _ hm rfl, fun C n hl he => by
    have key : ∀ e ∈ ot.mks, (PySem.Str.ofString "_law_walked") = initOf e.1 → ∃ Ca, mg e.1 = some (.ref Ca) ∧ PySem.W.nsIn K mainGlobals e.1 = some (some (.ref Ca)) ∧ ObC K Ca ∧ Mk K Ca fa := by
      unfold ot
      simp only [List.forall_mem_cons, List.not_mem_nil, false_implies, implies_true, and_true]
      exact fun h => absurd h (by decide +kernel)
    exact key (C, n) (PySem.mem_of_lookup hl) he, fun C m hm he => by
    have key : ∀ e ∈ ot.sms, (PySem.Str.ofString "_law_walked") = statOf e.1 e.2 → ∃ Ca, mg e.1 = some (.ref Ca) ∧ SMet K Ca e.2 fa := by
      unfold ot
      simp only [List.forall_mem_cons, List.not_mem_nil, false_implies, implies_true, and_true]
      exact fun h => absurd h (by decide +kernel)
    exact key (C, m) hm he⟩
theorem ok__law_walked {K : PySem.W.Frag} {mg : Str → Option Value} {h : Heap} (X : K.In h) (G : h.Ns mainGlobals mg) (D : DA K (PySem.Str.ofString "_law_walked") 78) : AtTab K mg con fns kws ot ((PySem.Str.ofString "_law_walked"), D__law_walked) := by
  obtain ⟨fa, fd, F, a⟩ := D
  exact ⟨S__law_walked, [(PySem.Str.ofString "sack"), (PySem.Str.ofString "plan_here"), (PySem.Str.ofString "far")], (topS 78), fa, fd, (PySem.Str.ofString "_law_walked"), (PySem.Str.ofString "_law_walked"), def__law_walked X G F a, rfl, rfl, ⟨rfl, rfl, rfl⟩, rfl⟩
theorem sc__law_is_whole : FnScope S__law_is_whole.N [(PySem.Str.ofString "thing"), (PySem.Str.ofString "least")] (defScope (topS 79)) := ⟨rfl, rfl, rfl, by decide +kernel, rfl, by decide +kernel, by decide +kernel⟩
theorem kb__law_is_whole {K : PySem.W.Frag} {fa : Addr} {fd : FuncData} (F : Fun K (PySem.Str.ofString "_law_is_whole") (PySem.Str.ofString "_law_is_whole") (topS 79) fa fd) : ∀ e ∈ kws, e.1 = (PySem.Str.ofString "_law_is_whole") → KBinds K fd [(PySem.Str.ofString "thing"), (PySem.Str.ofString "least")] e.2.2.1 (permW e.2.1 e.2.2.1.length e.2.2.2) (permW e.2.1 e.2.2.1.length e.2.2.2) := by
  unfold kws
  simp only [List.forall_mem_cons, List.not_mem_nil, false_implies, implies_true, and_true]
  exact fun h => absurd h (by decide +kernel)
theorem def__law_is_whole {K : PySem.W.Frag} {mg : Str → Option Value} {h : Heap} (X : K.In h) (G : h.Ns mainGlobals mg) {fa : Addr} {fd : FuncData} (F : Fun K (PySem.Str.ofString "_law_is_whole") (PySem.Str.ofString "_law_is_whole") (topS 79) fa fd) (a : PySem.W.nsIn K mainGlobals (PySem.Str.ofString "_law_is_whole") = some (some (.ref fa))) : DefOk K mg kws ot S__law_is_whole (PySem.Str.ofString "_law_is_whole") D__law_is_whole [(PySem.Str.ofString "thing"), (PySem.Str.ofString "least")] (topS 79) fa fd (PySem.Str.ofString "_law_is_whole") (PySem.Str.ofString "_law_is_whole") :=
  ⟨F, fun _ => PySem.W.mg_of X G a, F.binds (fun _ _ _ _ _ _ us hl => match us, hl with | [_, _], _ => rfl), sc__law_is_whole, rfl, rfl, rfl, rfl, fun n ks perm hm => kb__law_is_whole F _ hm rfl, fun C n hl he => by
    have key : ∀ e ∈ ot.mks, (PySem.Str.ofString "_law_is_whole") = initOf e.1 → ∃ Ca, mg e.1 = some (.ref Ca) ∧ PySem.W.nsIn K mainGlobals e.1 = some (some (.ref Ca)) ∧ ObC K Ca ∧ Mk K Ca fa := by
      unfold ot
      simp only [List.forall_mem_cons, List.not_mem_nil, false_implies, implies_true, and_true]
      exact fun h => absurd h (by decide +kernel)
    exact key (C, n) (PySem.mem_of_lookup hl) he, fun C m hm he => by
    have key : ∀ e ∈ ot.sms, (PySem.Str.ofString "_law_is_whole") = statOf e.1 e.2 → ∃ Ca, mg e.1 = some (.ref Ca) ∧ SMet K Ca e.2 fa := by
      unfold ot
      simp only [List.forall_mem_cons, List.not_mem_nil, false_implies, implies_true, and_true]
      exact fun h => absurd h (by decide +kernel)
    exact key (C, m) hm he⟩
theorem ok__law_is_whole {K : PySem.W.Frag} {mg : Str → Option Value} {h : Heap} (X : K.In h) (G : h.Ns mainGlobals mg) (D : DA K (PySem.Str.ofString "_law_is_whole") 79) : AtTab K mg con fns kws ot ((PySem.Str.ofString "_law_is_whole"), D__law_is_whole) := by
  obtain ⟨fa, fd, F, a⟩ := D
  exact ⟨S__law_is_whole, [(PySem.Str.ofString "thing"), (PySem.Str.ofString "least")], (topS 79), fa, fd, (PySem.Str.ofString "_law_is_whole"), (PySem.Str.ofString "_law_is_whole"), def__law_is_whole X G F a, rfl, rfl, ⟨rfl, rfl, rfl⟩, rfl⟩
theorem sc__law_is_past : FnScope S__law_is_past.N [(PySem.Str.ofString "plan_here"), (PySem.Str.ofString "thing")] (defScope (topS 80)) := ⟨rfl, rfl, rfl, by decide +kernel, rfl, by decide +kernel, by decide +kernel⟩
theorem kb__law_is_past {K : PySem.W.Frag} {fa : Addr} {fd : FuncData} (F : Fun K (PySem.Str.ofString "_law_is_past") (PySem.Str.ofString "_law_is_past") (topS 80) fa fd) : ∀ e ∈ kws, e.1 = (PySem.Str.ofString "_law_is_past") → KBinds K fd [(PySem.Str.ofString "plan_here"), (PySem.Str.ofString "thing")] e.2.2.1 (permW e.2.1 e.2.2.1.length e.2.2.2) (permW e.2.1 e.2.2.1.length e.2.2.2) := by
  unfold kws
  simp only [List.forall_mem_cons, List.not_mem_nil, false_implies, implies_true, and_true]
  exact fun h => absurd h (by decide +kernel)
theorem def__law_is_past {K : PySem.W.Frag} {mg : Str → Option Value} {h : Heap} (X : K.In h) (G : h.Ns mainGlobals mg) {fa : Addr} {fd : FuncData} (F : Fun K (PySem.Str.ofString "_law_is_past") (PySem.Str.ofString "_law_is_past") (topS 80) fa fd) (a : PySem.W.nsIn K mainGlobals (PySem.Str.ofString "_law_is_past") = some (some (.ref fa))) : DefOk K mg kws ot S__law_is_past (PySem.Str.ofString "_law_is_past") D__law_is_past [(PySem.Str.ofString "plan_here"), (PySem.Str.ofString "thing")] (topS 80) fa fd (PySem.Str.ofString "_law_is_past") (PySem.Str.ofString "_law_is_past") :=
  ⟨F, fun _ => PySem.W.mg_of X G a, F.binds (fun _ _ _ _ _ _ us hl => match us, hl with | [_, _], _ => rfl), sc__law_is_past, rfl, rfl, rfl, rfl, fun n ks perm hm => kb__law_is_past F _ hm rfl, fun C n hl he => by
    have key : ∀ e ∈ ot.mks, (PySem.Str.ofString "_law_is_past") = initOf e.1 → ∃ Ca, mg e.1 = some (.ref Ca) ∧ PySem.W.nsIn K mainGlobals e.1 = some (some (.ref Ca)) ∧ ObC K Ca ∧ Mk K Ca fa := by
      unfold ot
      simp only [List.forall_mem_cons, List.not_mem_nil, false_implies, implies_true, and_true]
      exact fun h => absurd h (by decide +kernel)
    exact key (C, n) (PySem.mem_of_lookup hl) he, fun C m hm he => by
    have key : ∀ e ∈ ot.sms, (PySem.Str.ofString "_law_is_past") = statOf e.1 e.2 → ∃ Ca, mg e.1 = some (.ref Ca) ∧ SMet K Ca e.2 fa := by
      unfold ot
      simp only [List.forall_mem_cons, List.not_mem_nil, false_implies, implies_true, and_true]
      exact fun h => absurd h (by decide +kernel)
    exact key (C, m) hm he⟩
theorem ok__law_is_past {K : PySem.W.Frag} {mg : Str → Option Value} {h : Heap} (X : K.In h) (G : h.Ns mainGlobals mg) (D : DA K (PySem.Str.ofString "_law_is_past") 80) : AtTab K mg con fns kws ot ((PySem.Str.ofString "_law_is_past"), D__law_is_past) := by
  obtain ⟨fa, fd, F, a⟩ := D
  exact ⟨S__law_is_past, [(PySem.Str.ofString "plan_here"), (PySem.Str.ofString "thing")], (topS 80), fa, fd, (PySem.Str.ofString "_law_is_past"), (PySem.Str.ofString "_law_is_past"), def__law_is_past X G F a, rfl, rfl, ⟨rfl, rfl, rfl⟩, rfl⟩
theorem sc__law_bent_part : FnScope S__law_bent_part.N [(PySem.Str.ofString "sack"), (PySem.Str.ofString "thing")] (defScope (topS 81)) := ⟨rfl, rfl, rfl, by decide +kernel, rfl, by decide +kernel, by decide +kernel⟩
theorem kb__law_bent_part {K : PySem.W.Frag} {fa : Addr} {fd : FuncData} (F : Fun K (PySem.Str.ofString "_law_bent_part") (PySem.Str.ofString "_law_bent_part") (topS 81) fa fd) : ∀ e ∈ kws, e.1 = (PySem.Str.ofString "_law_bent_part") → KBinds K fd [(PySem.Str.ofString "sack"), (PySem.Str.ofString "thing")] e.2.2.1 (permW e.2.1 e.2.2.1.length e.2.2.2) (permW e.2.1 e.2.2.1.length e.2.2.2) := by
  unfold kws
  simp only [List.forall_mem_cons, List.not_mem_nil, false_implies, implies_true, and_true]
  exact fun h => absurd h (by decide +kernel)
theorem def__law_bent_part {K : PySem.W.Frag} {mg : Str → Option Value} {h : Heap} (X : K.In h) (G : h.Ns mainGlobals mg) {fa : Addr} {fd : FuncData} (F : Fun K (PySem.Str.ofString "_law_bent_part") (PySem.Str.ofString "_law_bent_part") (topS 81) fa fd) (a : PySem.W.nsIn K mainGlobals (PySem.Str.ofString "_law_bent_part") = some (some (.ref fa))) : DefOk K mg kws ot S__law_bent_part (PySem.Str.ofString "_law_bent_part") D__law_bent_part [(PySem.Str.ofString "sack"), (PySem.Str.ofString "thing")] (topS 81) fa fd (PySem.Str.ofString "_law_bent_part") (PySem.Str.ofString "_law_bent_part") :=
  ⟨F, fun _ => PySem.W.mg_of X G a, F.binds (fun _ _ _ _ _ _ us hl => match us, hl with | [_, _], _ => rfl), sc__law_bent_part, rfl, rfl, rfl, rfl, fun n ks perm hm => kb__law_bent_part F _ hm rfl, fun C n hl he => by
    have key : ∀ e ∈ ot.mks, (PySem.Str.ofString "_law_bent_part") = initOf e.1 → ∃ Ca, mg e.1 = some (.ref Ca) ∧ PySem.W.nsIn K mainGlobals e.1 = some (some (.ref Ca)) ∧ ObC K Ca ∧ Mk K Ca fa := by
      unfold ot
      simp only [List.forall_mem_cons, List.not_mem_nil, false_implies, implies_true, and_true]
      exact fun h => absurd h (by decide +kernel)
    exact key (C, n) (PySem.mem_of_lookup hl) he, fun C m hm he => by
    have key : ∀ e ∈ ot.sms, (PySem.Str.ofString "_law_bent_part") = statOf e.1 e.2 → ∃ Ca, mg e.1 = some (.ref Ca) ∧ SMet K Ca e.2 fa := by
      unfold ot
      simp only [List.forall_mem_cons, List.not_mem_nil, false_implies, implies_true, and_true]
      exact fun h => absurd h (by decide +kernel)
    exact key (C, m) hm he⟩
theorem ok__law_bent_part {K : PySem.W.Frag} {mg : Str → Option Value} {h : Heap} (X : K.In h) (G : h.Ns mainGlobals mg) (D : DA K (PySem.Str.ofString "_law_bent_part") 81) : AtTab K mg con fns kws ot ((PySem.Str.ofString "_law_bent_part"), D__law_bent_part) := by
  obtain ⟨fa, fd, F, a⟩ := D
  exact ⟨S__law_bent_part, [(PySem.Str.ofString "sack"), (PySem.Str.ofString "thing")], (topS 81), fa, fd, (PySem.Str.ofString "_law_bent_part"), (PySem.Str.ofString "_law_bent_part"), def__law_bent_part X G F a, rfl, rfl, ⟨rfl, rfl, rfl⟩, rfl⟩
theorem sc__law_titles : FnScope S__law_titles.N [(PySem.Str.ofString "sack"), (PySem.Str.ofString "many_here")] (defScope (topS 82)) := ⟨rfl, rfl, rfl, by decide +kernel, rfl, by decide +kernel, by decide +kernel⟩
theorem kb__law_titles {K : PySem.W.Frag} {fa : Addr} {fd : FuncData} (F : Fun K (PySem.Str.ofString "_law_titles") (PySem.Str.ofString "_law_titles") (topS 82) fa fd) : ∀ e ∈ kws, e.1 = (PySem.Str.ofString "_law_titles") → KBinds K fd [(PySem.Str.ofString "sack"), (PySem.Str.ofString "many_here")] e.2.2.1 (permW e.2.1 e.2.2.1.length e.2.2.2) (permW e.2.1 e.2.2.1.length e.2.2.2) := by
  unfold kws
  simp only [List.forall_mem_cons, List.not_mem_nil, false_implies, implies_true, and_true]
  exact fun h => absurd h (by decide +kernel)
theorem def__law_titles {K : PySem.W.Frag} {mg : Str → Option Value} {h : Heap} (X : K.In h) (G : h.Ns mainGlobals mg) {fa : Addr} {fd : FuncData} (F : Fun K (PySem.Str.ofString "_law_titles") (PySem.Str.ofString "_law_titles") (topS 82) fa fd) (a : PySem.W.nsIn K mainGlobals (PySem.Str.ofString "_law_titles") = some (some (.ref fa))) : DefOk K mg kws ot S__law_titles (PySem.Str.ofString "_law_titles") D__law_titles [(PySem.Str.ofString "sack"), (PySem.Str.ofString "many_here")] (topS 82) fa fd (PySem.Str.ofString "_law_titles") (PySem.Str.ofString "_law_titles") :=
  ⟨F, fun _ => PySem.W.mg_of X G a, F.binds (fun _ _ _ _ _ _ us hl => match us, hl with | [_, _], _ => rfl), sc__law_titles, rfl, rfl, rfl, rfl, fun n ks perm hm => kb__law_titles F _ hm rfl, fun C n hl he => by
    have key : ∀ e ∈ ot.mks, (PySem.Str.ofString "_law_titles") = initOf e.1 → ∃ Ca, mg e.1 = some (.ref Ca) ∧ PySem.W.nsIn K mainGlobals e.1 = some (some (.ref Ca)) ∧ ObC K Ca ∧ Mk K Ca fa := by
      unfold ot
      simp only [List.forall_mem_cons, List.not_mem_nil, false_implies, implies_true, and_true]
      exact fun h => absurd h (by decide +kernel)
    exact key (C, n) (PySem.mem_of_lookup hl) he, fun C m hm he => by
    have key : ∀ e ∈ ot.sms, (PySem.Str.ofString "_law_titles") = statOf e.1 e.2 → ∃ Ca, mg e.1 = some (.ref Ca) ∧ SMet K Ca e.2 fa := by
      unfold ot
      simp only [List.forall_mem_cons, List.not_mem_nil, false_implies, implies_true, and_true]
      exact fun h => absurd h (by decide +kernel)
    exact key (C, m) hm he⟩
theorem ok__law_titles {K : PySem.W.Frag} {mg : Str → Option Value} {h : Heap} (X : K.In h) (G : h.Ns mainGlobals mg) (D : DA K (PySem.Str.ofString "_law_titles") 82) : AtTab K mg con fns kws ot ((PySem.Str.ofString "_law_titles"), D__law_titles) := by
  obtain ⟨fa, fd, F, a⟩ := D
  exact ⟨S__law_titles, [(PySem.Str.ofString "sack"), (PySem.Str.ofString "many_here")], (topS 82), fa, fd, (PySem.Str.ofString "_law_titles"), (PySem.Str.ofString "_law_titles"), def__law_titles X G F a, rfl, rfl, ⟨rfl, rfl, rfl⟩, rfl⟩
theorem sc__law_few_limits : FnScope S__law_few_limits.N [(PySem.Str.ofString "sack"), (PySem.Str.ofString "points"), (PySem.Str.ofString "many_here"), (PySem.Str.ofString "great")] (defScope (topS 83)) := ⟨rfl, rfl, rfl, by decide +kernel, rfl, by decide +kernel, by decide +kernel⟩
theorem kb__law_few_limits {K : PySem.W.Frag} {fa : Addr} {fd : FuncData} (F : Fun K (PySem.Str.ofString "_law_few_limits") (PySem.Str.ofString "_law_few_limits") (topS 83) fa fd) : ∀ e ∈ kws, e.1 = (PySem.Str.ofString "_law_few_limits") → KBinds K fd [(PySem.Str.ofString "sack"), (PySem.Str.ofString "points"), (PySem.Str.ofString "many_here"), (PySem.Str.ofString "great")] e.2.2.1 (permW e.2.1 e.2.2.1.length e.2.2.2) (permW e.2.1 e.2.2.1.length e.2.2.2) := by
  unfold kws
  simp only [List.forall_mem_cons, List.not_mem_nil, false_implies, implies_true, and_true]
  exact fun h => absurd h (by decide +kernel)
theorem def__law_few_limits {K : PySem.W.Frag} {mg : Str → Option Value} {h : Heap} (X : K.In h) (G : h.Ns mainGlobals mg) {fa : Addr} {fd : FuncData} (F : Fun K (PySem.Str.ofString "_law_few_limits") (PySem.Str.ofString "_law_few_limits") (topS 83) fa fd) (a : PySem.W.nsIn K mainGlobals (PySem.Str.ofString "_law_few_limits") = some (some (.ref fa))) : DefOk K mg kws ot S__law_few_limits (PySem.Str.ofString "_law_few_limits") D__law_few_limits [(PySem.Str.ofString "sack"), (PySem.Str.ofString "points"), (PySem.Str.ofString "many_here"), (PySem.Str.ofString "great")] (topS 83) fa fd (PySem.Str.ofString "_law_few_limits") (PySem.Str.ofString "_law_few_limits") :=
  ⟨F, fun _ => PySem.W.mg_of X G a, F.binds (fun _ _ _ _ _ _ us hl => match us, hl with | [_, _, _, _], _ => rfl), sc__law_few_limits, rfl, rfl, rfl, rfl, fun n ks perm hm => kb__law_few_limits F _ hm rfl, fun C n hl he => by
    have key : ∀ e ∈ ot.mks, (PySem.Str.ofString "_law_few_limits") = initOf e.1 → ∃ Ca, mg e.1 = some (.ref Ca) ∧ PySem.W.nsIn K mainGlobals e.1 = some (some (.ref Ca)) ∧ ObC K Ca ∧ Mk K Ca fa := by
      unfold ot
      simp only [List.forall_mem_cons, List.not_mem_nil, false_implies, implies_true, and_true]
      exact fun h => absurd h (by decide +kernel)
    exact key (C, n) (PySem.mem_of_lookup hl) he, fun C m hm he => by
    have key : ∀ e ∈ ot.sms, (PySem.Str.ofString "_law_few_limits") = statOf e.1 e.2 → ∃ Ca, mg e.1 = some (.ref Ca) ∧ SMet K Ca e.2 fa := by
      unfold ot
      simp only [List.forall_mem_cons, List.not_mem_nil, false_implies, implies_true, and_true]
      exact fun h => absurd h (by decide +kernel)
    exact key (C, m) hm he⟩
theorem ok__law_few_limits {K : PySem.W.Frag} {mg : Str → Option Value} {h : Heap} (X : K.In h) (G : h.Ns mainGlobals mg) (D : DA K (PySem.Str.ofString "_law_few_limits") 83) : AtTab K mg con fns kws ot ((PySem.Str.ofString "_law_few_limits"), D__law_few_limits) := by
  obtain ⟨fa, fd, F, a⟩ := D
  exact ⟨S__law_few_limits, [(PySem.Str.ofString "sack"), (PySem.Str.ofString "points"), (PySem.Str.ofString "many_here"), (PySem.Str.ofString "great")], (topS 83), fa, fd, (PySem.Str.ofString "_law_few_limits"), (PySem.Str.ofString "_law_few_limits"), def__law_few_limits X G F a, rfl, rfl, ⟨rfl, rfl, rfl⟩, rfl⟩
theorem sc__law_long_jobs : FnScope S__law_long_jobs.N [(PySem.Str.ofString "sack"), (PySem.Str.ofString "points"), (PySem.Str.ofString "many_here")] (defScope (topS 84)) := ⟨rfl, rfl, rfl, by decide +kernel, rfl, by decide +kernel, by decide +kernel⟩
theorem kb__law_long_jobs {K : PySem.W.Frag} {fa : Addr} {fd : FuncData} (F : Fun K (PySem.Str.ofString "_law_long_jobs") (PySem.Str.ofString "_law_long_jobs") (topS 84) fa fd) : ∀ e ∈ kws, e.1 = (PySem.Str.ofString "_law_long_jobs") → KBinds K fd [(PySem.Str.ofString "sack"), (PySem.Str.ofString "points"), (PySem.Str.ofString "many_here")] e.2.2.1 (permW e.2.1 e.2.2.1.length e.2.2.2) (permW e.2.1 e.2.2.1.length e.2.2.2) := by
  unfold kws
  simp only [List.forall_mem_cons, List.not_mem_nil, false_implies, implies_true, and_true]
  exact fun h => absurd h (by decide +kernel)
theorem def__law_long_jobs {K : PySem.W.Frag} {mg : Str → Option Value} {h : Heap} (X : K.In h) (G : h.Ns mainGlobals mg) {fa : Addr} {fd : FuncData} (F : Fun K (PySem.Str.ofString "_law_long_jobs") (PySem.Str.ofString "_law_long_jobs") (topS 84) fa fd) (a : PySem.W.nsIn K mainGlobals (PySem.Str.ofString "_law_long_jobs") = some (some (.ref fa))) : DefOk K mg kws ot S__law_long_jobs (PySem.Str.ofString "_law_long_jobs") D__law_long_jobs [(PySem.Str.ofString "sack"), (PySem.Str.ofString "points"), (PySem.Str.ofString "many_here")] (topS 84) fa fd (PySem.Str.ofString "_law_long_jobs") (PySem.Str.ofString "_law_long_jobs") :=
  ⟨F, fun _ => PySem.W.mg_of X G a, F.binds (fun _ _ _ _ _ _ us hl => match us, hl with | [_, _, _], _ => rfl), sc__law_long_jobs, rfl, rfl, rfl, rfl, fun n ks perm hm => kb__law_long_jobs F _ hm rfl, fun C n hl he => by
    have key : ∀ e ∈ ot.mks, (PySem.Str.ofString "_law_long_jobs") = initOf e.1 → ∃ Ca, mg e.1 = some (.ref Ca) ∧ PySem.W.nsIn K mainGlobals e.1 = some (some (.ref Ca)) ∧ ObC K Ca ∧ Mk K Ca fa := by
      unfold ot
      simp only [List.forall_mem_cons, List.not_mem_nil, false_implies, implies_true, and_true]
      exact fun h => absurd h (by decide +kernel)
    exact key (C, n) (PySem.mem_of_lookup hl) he, fun C m hm he => by
    have key : ∀ e ∈ ot.sms, (PySem.Str.ofString "_law_long_jobs") = statOf e.1 e.2 → ∃ Ca, mg e.1 = some (.ref Ca) ∧ SMet K Ca e.2 fa := by
      unfold ot
      simp only [List.forall_mem_cons, List.not_mem_nil, false_implies, implies_true, and_true]
      exact fun h => absurd h (by decide +kernel)
    exact key (C, m) hm he⟩
theorem ok__law_long_jobs {K : PySem.W.Frag} {mg : Str → Option Value} {h : Heap} (X : K.In h) (G : h.Ns mainGlobals mg) (D : DA K (PySem.Str.ofString "_law_long_jobs") 84) : AtTab K mg con fns kws ot ((PySem.Str.ofString "_law_long_jobs"), D__law_long_jobs) := by
  obtain ⟨fa, fd, F, a⟩ := D
  exact ⟨S__law_long_jobs, [(PySem.Str.ofString "sack"), (PySem.Str.ofString "points"), (PySem.Str.ofString "many_here")], (topS 84), fa, fd, (PySem.Str.ofString "_law_long_jobs"), (PySem.Str.ofString "_law_long_jobs"), def__law_long_jobs X G F a, rfl, rfl, ⟨rfl, rfl, rfl⟩, rfl⟩
theorem sc__law_great : FnScope S__law_great.N [(PySem.Str.ofString "sack"), (PySem.Str.ofString "many_here"), (PySem.Str.ofString "great")] (defScope (topS 85)) := ⟨rfl, rfl, rfl, by decide +kernel, rfl, by decide +kernel, by decide +kernel⟩
theorem kb__law_great {K : PySem.W.Frag} {fa : Addr} {fd : FuncData} (F : Fun K (PySem.Str.ofString "_law_great") (PySem.Str.ofString "_law_great") (topS 85) fa fd) : ∀ e ∈ kws, e.1 = (PySem.Str.ofString "_law_great") → KBinds K fd [(PySem.Str.ofString "sack"), (PySem.Str.ofString "many_here"), (PySem.Str.ofString "great")] e.2.2.1 (permW e.2.1 e.2.2.1.length e.2.2.2) (permW e.2.1 e.2.2.1.length e.2.2.2) := by
  unfold kws
  simp only [List.forall_mem_cons, List.not_mem_nil, false_implies, implies_true, and_true]
  exact fun h => absurd h (by decide +kernel)
theorem def__law_great {K : PySem.W.Frag} {mg : Str → Option Value} {h : Heap} (X : K.In h) (G : h.Ns mainGlobals mg) {fa : Addr} {fd : FuncData} (F : Fun K (PySem.Str.ofString "_law_great") (PySem.Str.ofString "_law_great") (topS 85) fa fd) (a : PySem.W.nsIn K mainGlobals (PySem.Str.ofString "_law_great") = some (some (.ref fa))) : DefOk K mg kws ot S__law_great (PySem.Str.ofString "_law_great") D__law_great [(PySem.Str.ofString "sack"), (PySem.Str.ofString "many_here"), (PySem.Str.ofString "great")] (topS 85) fa fd (PySem.Str.ofString "_law_great") (PySem.Str.ofString "_law_great") :=
  ⟨F, fun _ => PySem.W.mg_of X G a, F.binds (fun _ _ _ _ _ _ us hl => match us, hl with | [_, _, _], _ => rfl), sc__law_great, rfl, rfl, rfl, rfl, fun n ks perm hm => kb__law_great F _ hm rfl, fun C n hl he => by
    have key : ∀ e ∈ ot.mks, (PySem.Str.ofString "_law_great") = initOf e.1 → ∃ Ca, mg e.1 = some (.ref Ca) ∧ PySem.W.nsIn K mainGlobals e.1 = some (some (.ref Ca)) ∧ ObC K Ca ∧ Mk K Ca fa := by
      unfold ot
      simp only [List.forall_mem_cons, List.not_mem_nil, false_implies, implies_true, and_true]
      exact fun h => absurd h (by decide +kernel)
    exact key (C, n) (PySem.mem_of_lookup hl) he, fun C m hm he => by
    have key : ∀ e ∈ ot.sms, (PySem.Str.ofString "_law_great") = statOf e.1 e.2 → ∃ Ca, mg e.1 = some (.ref Ca) ∧ SMet K Ca e.2 fa := by
      unfold ot
      simp only [List.forall_mem_cons, List.not_mem_nil, false_implies, implies_true, and_true]
      exact fun h => absurd h (by decide +kernel)
    exact key (C, m) hm he⟩
theorem ok__law_great {K : PySem.W.Frag} {mg : Str → Option Value} {h : Heap} (X : K.In h) (G : h.Ns mainGlobals mg) (D : DA K (PySem.Str.ofString "_law_great") 85) : AtTab K mg con fns kws ot ((PySem.Str.ofString "_law_great"), D__law_great) := by
  obtain ⟨fa, fd, F, a⟩ := D
  exact ⟨S__law_great, [(PySem.Str.ofString "sack"), (PySem.Str.ofString "many_here"), (PySem.Str.ofString "great")], (topS 85), fa, fd, (PySem.Str.ofString "_law_great"), (PySem.Str.ofString "_law_great"), def__law_great X G F a, rfl, rfl, ⟨rfl, rfl, rfl⟩, rfl⟩
theorem sc_law : FnScope S_law.N [(PySem.Str.ofString "script")] (defScope (topS 86)) := ⟨rfl, rfl, rfl, by decide +kernel, rfl, by decide +kernel, by decide +kernel⟩
theorem kb_law {K : PySem.W.Frag} {fa : Addr} {fd : FuncData} (F : Fun K (PySem.Str.ofString "law") (PySem.Str.ofString "law") (topS 86) fa fd) : ∀ e ∈ kws, e.1 = (PySem.Str.ofString "law") → KBinds K fd [(PySem.Str.ofString "script")] e.2.2.1 (permW e.2.1 e.2.2.1.length e.2.2.2) (permW e.2.1 e.2.2.1.length e.2.2.2) := by
  unfold kws
  simp only [List.forall_mem_cons, List.not_mem_nil, false_implies, implies_true, and_true]
  exact fun h => absurd h (by decide +kernel)
theorem def_law {K : PySem.W.Frag} {mg : Str → Option Value} {h : Heap} (X : K.In h) (G : h.Ns mainGlobals mg) {fa : Addr} {fd : FuncData} (F : Fun K (PySem.Str.ofString "law") (PySem.Str.ofString "law") (topS 86) fa fd) (a : PySem.W.nsIn K mainGlobals (PySem.Str.ofString "law") = some (some (.ref fa))) : DefOk K mg kws ot S_law (PySem.Str.ofString "law") D_law [(PySem.Str.ofString "script")] (topS 86) fa fd (PySem.Str.ofString "law") (PySem.Str.ofString "law") :=
  ⟨F, fun _ => PySem.W.mg_of X G a, F.binds (fun _ _ _ _ _ _ us hl => match us, hl with | [_], _ => rfl), sc_law, rfl, rfl, rfl, rfl, fun n ks perm hm => kb_law F _ hm rfl, fun C n hl he => by
    have key : ∀ e ∈ ot.mks, (PySem.Str.ofString "law") = initOf e.1 → ∃ Ca, mg e.1 = some (.ref Ca) ∧ PySem.W.nsIn K mainGlobals e.1 = some (some (.ref Ca)) ∧ ObC K Ca ∧ Mk K Ca fa := by
      unfold ot
      simp only [List.forall_mem_cons, List.not_mem_nil, false_implies, implies_true, and_true]
      exact fun h => absurd h (by decide +kernel)
    exact key (C, n) (PySem.mem_of_lookup hl) he, fun C m hm he => by
    have key : ∀ e ∈ ot.sms, (PySem.Str.ofString "law") = statOf e.1 e.2 → ∃ Ca, mg e.1 = some (.ref Ca) ∧ SMet K Ca e.2 fa := by
      unfold ot
      simp only [List.forall_mem_cons, List.not_mem_nil, false_implies, implies_true, and_true]
      exact fun h => absurd h (by decide +kernel)
    exact key (C, m) hm he⟩
theorem ok_law {K : PySem.W.Frag} {mg : Str → Option Value} {h : Heap} (X : K.In h) (G : h.Ns mainGlobals mg) (D : DA K (PySem.Str.ofString "law") 86) : AtTab K mg con fns kws ot ((PySem.Str.ofString "law"), D_law) := by
  obtain ⟨fa, fd, F, a⟩ := D
  exact ⟨S_law, [(PySem.Str.ofString "script")], (topS 86), fa, fd, (PySem.Str.ofString "law"), (PySem.Str.ofString "law"), def_law X G F a, rfl, rfl, ⟨rfl, rfl, rfl⟩, rfl⟩
theorem sc_mk_Live : FnScope S_mk_Live.N [(PySem.Str.ofString "self"), (PySem.Str.ofString "plan")] (defScope (methS 65 1)) := ⟨rfl, rfl, rfl, by decide +kernel, rfl, by decide +kernel, by decide +kernel⟩
theorem kb_mk_Live {K : PySem.W.Frag} {fa : Addr} {fd : FuncData} (F : Fun K (PySem.Str.ofString "__init__") (PySem.Str.ofString "Live.__init__") (methS 65 1) fa fd) : ∀ e ∈ kws, e.1 = (PySem.Str.ofString "Live.__init__") → KBinds K fd [(PySem.Str.ofString "self"), (PySem.Str.ofString "plan")] e.2.2.1 (permW e.2.1 e.2.2.1.length e.2.2.2) (permW e.2.1 e.2.2.1.length e.2.2.2) := by
  unfold kws
  simp only [List.forall_mem_cons, List.not_mem_nil, false_implies, implies_true, and_true]
  exact fun h => absurd h (by decide +kernel)
theorem def_mk_Live {K : PySem.W.Frag} {mg : Str → Option Value} {h : Heap} (X : K.In h) (G : h.Ns mainGlobals mg) {fa : Addr} {fd : FuncData} (F : Fun K (PySem.Str.ofString "__init__") (PySem.Str.ofString "Live.__init__") (methS 65 1) fa fd) {Ca : Addr} (a : PySem.W.nsIn K mainGlobals (PySem.Str.ofString "Live") = some (some (.ref Ca))) (oc : ObC K Ca) (M : Mk K Ca fa) : DefOk K mg kws ot S_mk_Live (PySem.Str.ofString "Live.__init__") D_mk_Live [(PySem.Str.ofString "self"), (PySem.Str.ofString "plan")] (methS 65 1) fa fd (PySem.Str.ofString "__init__") (PySem.Str.ofString "Live.__init__") :=
  ⟨F, fun h => absurd h (by decide +kernel), F.binds (fun _ _ _ _ _ _ us hl => match us, hl with | [_, _], _ => rfl), sc_mk_Live, rfl, rfl, rfl, rfl, fun n ks perm hm => kb_mk_Live F _ hm rfl, fun C n hl he => by
    have key : ∀ e ∈ ot.mks, (PySem.Str.ofString "Live.__init__") = initOf e.1 → ∃ Ca, mg e.1 = some (.ref Ca) ∧ PySem.W.nsIn K mainGlobals e.1 = some (some (.ref Ca)) ∧ ObC K Ca ∧ Mk K Ca fa := by
      unfold ot
      simp only [List.forall_mem_cons, List.not_mem_nil, false_implies, implies_true, and_true]
      exact fun _ => ⟨Ca, PySem.W.mg_of X G a, a, oc, M⟩
    exact key (C, n) (PySem.mem_of_lookup hl) he, fun C m hm he => by
    have key : ∀ e ∈ ot.sms, (PySem.Str.ofString "Live.__init__") = statOf e.1 e.2 → ∃ Ca, mg e.1 = some (.ref Ca) ∧ SMet K Ca e.2 fa := by
      unfold ot
      simp only [List.forall_mem_cons, List.not_mem_nil, false_implies, implies_true, and_true]
      exact fun h => absurd h (by decide +kernel)
    exact key (C, m) hm he⟩
theorem ok_mk_Live {K : PySem.W.Frag} {mg : Str → Option Value} {h : Heap} (X : K.In h) (G : h.Ns mainGlobals mg) (D : MA K (PySem.Str.ofString "Live") (PySem.Str.ofString "Live.__init__") (methS 65 1)) : AtTab K mg con fns kws ot ((PySem.Str.ofString "Live.__init__"), D_mk_Live) := by
  obtain ⟨Ca, fa, fd, F, a, oc, M⟩ := D
  exact ⟨S_mk_Live, [(PySem.Str.ofString "self"), (PySem.Str.ofString "plan")], (methS 65 1), fa, fd, (PySem.Str.ofString "__init__"), (PySem.Str.ofString "Live.__init__"), def_mk_Live X G F a oc M, rfl, rfl, ⟨rfl, rfl, rfl⟩, rfl⟩
theorem sc_sm_Live_is_valid : FnScope S_sm_Live_is_valid.N [(PySem.Str.ofString "value")] (defScope (methS 65 2)) := ⟨rfl, rfl, rfl, by decide +kernel, rfl, by decide +kernel, by decide +kernel⟩
theorem kb_sm_Live_is_valid {K : PySem.W.Frag} {fa : Addr} {fd : FuncData} (F : Fun K (PySem.Str.ofString "is_valid") (PySem.Str.ofString "Live.is_valid") (methS 65 2) fa fd) : ∀ e ∈ kws, e.1 = (PySem.Str.ofString "Live.is_valid") → KBinds K fd [(PySem.Str.ofString "value")] e.2.2.1 (permW e.2.1 e.2.2.1.length e.2.2.2) (permW e.2.1 e.2.2.1.length e.2.2.2) := by
  unfold kws
  simp only [List.forall_mem_cons, List.not_mem_nil, false_implies, implies_true, and_true]
  exact fun h => absurd h (by decide +kernel)
theorem def_sm_Live_is_valid {K : PySem.W.Frag} {mg : Str → Option Value} {h : Heap} (X : K.In h) (G : h.Ns mainGlobals mg) {fa : Addr} {fd : FuncData} (F : Fun K (PySem.Str.ofString "is_valid") (PySem.Str.ofString "Live.is_valid") (methS 65 2) fa fd) {Ca : Addr} (a : PySem.W.nsIn K mainGlobals (PySem.Str.ofString "Live") = some (some (.ref Ca))) (M : SMet K Ca (PySem.Str.ofString "is_valid") fa) : DefOk K mg kws ot S_sm_Live_is_valid (PySem.Str.ofString "Live.is_valid") D_sm_Live_is_valid [(PySem.Str.ofString "value")] (methS 65 2) fa fd (PySem.Str.ofString "is_valid") (PySem.Str.ofString "Live.is_valid") :=
  ⟨F, fun h => absurd h (by decide +kernel), F.binds (fun _ _ _ _ _ _ us hl => match us, hl with | [_], _ => rfl), sc_sm_Live_is_valid, rfl, rfl, rfl, rfl, fun n ks perm hm => kb_sm_Live_is_valid F _ hm rfl, fun C n hl he => by
    have key : ∀ e ∈ ot.mks, (PySem.Str.ofString "Live.is_valid") = initOf e.1 → ∃ Ca, mg e.1 = some (.ref Ca) ∧ PySem.W.nsIn K mainGlobals e.1 = some (some (.ref Ca)) ∧ ObC K Ca ∧ Mk K Ca fa := by
      unfold ot
      simp only [List.forall_mem_cons, List.not_mem_nil, false_implies, implies_true, and_true]
      exact fun h => absurd h (by decide +kernel)
    exact key (C, n) (PySem.mem_of_lookup hl) he, fun C m hm he => by
    have key : ∀ e ∈ ot.sms, (PySem.Str.ofString "Live.is_valid") = statOf e.1 e.2 → ∃ Ca, mg e.1 = some (.ref Ca) ∧ SMet K Ca e.2 fa := by
      unfold ot
      simp only [List.forall_mem_cons, List.not_mem_nil, false_implies, implies_true, and_true]
      exact fun _ => ⟨Ca, PySem.W.mg_of X G a, M⟩
    exact key (C, m) hm he⟩
theorem ok_sm_Live_is_valid {K : PySem.W.Frag} {mg : Str → Option Value} {h : Heap} (X : K.In h) (G : h.Ns mainGlobals mg) (D : SA K (PySem.Str.ofString "Live") (PySem.Str.ofString "is_valid") (PySem.Str.ofString "Live.is_valid") (methS 65 2)) : AtTab K mg con fns kws ot ((PySem.Str.ofString "Live.is_valid"), D_sm_Live_is_valid) := by
  obtain ⟨Ca, fa, fd, F, a, M⟩ := D
  exact ⟨S_sm_Live_is_valid, [(PySem.Str.ofString "value")], (methS 65 2), fa, fd, (PySem.Str.ofString "is_valid"), (PySem.Str.ofString "Live.is_valid"), def_sm_Live_is_valid X G F a M, rfl, rfl, ⟨rfl, rfl, rfl⟩, rfl⟩
theorem gl {K : PySem.W.Frag} {mg : Str → Option Value} {h : Heap} (X : K.In h) (G : h.Ns mainGlobals mg) (z_range : PySem.W.nsIn K mainGlobals (PySem.Str.ofString "range") = some none) (z_zip : PySem.W.nsIn K mainGlobals (PySem.Str.ofString "zip") = some none) (z_enumerate : PySem.W.nsIn K mainGlobals (PySem.Str.ofString "enumerate") = some none) (z_isinstance : PySem.W.nsIn K mainGlobals (PySem.Str.ofString "isinstance") = some none) (z_len : PySem.W.nsIn K mainGlobals (PySem.Str.ofString "len") = some none) (z_abs : PySem.W.nsIn K mainGlobals (PySem.Str.ofString "abs") = some none) (z_max : PySem.W.nsIn K mainGlobals (PySem.Str.ofString "max") = some none) (z_min : PySem.W.nsIn K mainGlobals (PySem.Str.ofString "min") = some none) (z_int : PySem.W.nsIn K mainGlobals (PySem.Str.ofString "int") = some none) (z_str : PySem.W.nsIn K mainGlobals (PySem.Str.ofString "str") = some none) (z_tuple : PySem.W.nsIn K mainGlobals (PySem.Str.ofString "tuple") = some none) (z_list : PySem.W.nsIn K mainGlobals (PySem.Str.ofString "list") = some none) (z_sorted : PySem.W.nsIn K mainGlobals (PySem.Str.ofString "sorted") = some none) (z_all : PySem.W.nsIn K mainGlobals (PySem.Str.ofString "all") = some none) (z_any : PySem.W.nsIn K mainGlobals (PySem.Str.ofString "any") = some none) (z_sum : PySem.W.nsIn K mainGlobals (PySem.Str.ofString "sum") = some none) (z_bool : PySem.W.nsIn K mainGlobals (PySem.Str.ofString "bool") = some none) (c_GO : ∃ u, PySem.W.nsIn K mainGlobals (PySem.Str.ofString "GO") = some (some u) ∧ RelV (.str (PySem.Str.ofString "go")) u) (c_LETTERS : ∃ u, PySem.W.nsIn K mainGlobals (PySem.Str.ofString "LETTERS") = some (some u) ∧ RelV (.str (PySem.Str.ofString "abcdefghijklmnopqrstuvwxyz")) u) (c_LONGEST_NAME : ∃ u, PySem.W.nsIn K mainGlobals (PySem.Str.ofString "LONGEST_NAME") = some (some u) ∧ RelV (.int 8) u) (c_PLAIN : ∃ u, PySem.W.nsIn K mainGlobals (PySem.Str.ofString "PLAIN") = some (some u) ∧ RelV (.str (PySem.Str.ofString "")) u) (c_NONE : ∃ u, PySem.W.nsIn K mainGlobals (PySem.Str.ofString "NONE") = some (some u) ∧ RelV (.str (PySem.Str.ofString "none")) u) (c_AT : ∃ u, PySem.W.nsIn K mainGlobals (PySem.Str.ofString "AT") = some (some u) ∧ RelV (.str (PySem.Str.ofString "at ")) u) (c_DIGITS : ∃ u, PySem.W.nsIn K mainGlobals (PySem.Str.ofString "DIGITS") = some (some u) ∧ RelV (.str (PySem.Str.ofString "0123456789")) u) (c_SAFE : ∃ u, PySem.W.nsIn K mainGlobals (PySem.Str.ofString "SAFE") = some (some u) ∧ RelV (.str (PySem.Str.ofString "safe")) u) (c_LOST : ∃ u, PySem.W.nsIn K mainGlobals (PySem.Str.ofString "LOST") = some (some u) ∧ RelV (.str (PySem.Str.ofString "lost")) u) (c_START : ∃ u, PySem.W.nsIn K mainGlobals (PySem.Str.ofString "START") = some (some u) ∧ RelV (.str (PySem.Str.ofString "start")) u) : GlOk K mg con := by
  refine ⟨PySem.W.mg_none_of X G z_range, PySem.W.mg_none_of X G z_zip, PySem.W.mg_none_of X G z_enumerate, ?_, ?_, ?_⟩
  · have key : ∀ e ∈ con, ∃ v u, mg e.1 = some u ∧ RelV v u ∧ ∀ B I H m, RM K B I H m → RV K B I H v e.2 := by
      unfold con
      simp only [List.forall_mem_cons, List.not_mem_nil, false_implies, implies_true, and_true]
      exact ⟨(let ⟨u, ht, hr⟩ := c_GO; ⟨.str (PySem.Str.ofString "go"), u, PySem.W.mg_of X G ht, hr, fun _ _ _ _ _ => .str _⟩), (let ⟨u, ht, hr⟩ := c_LETTERS; ⟨.str (PySem.Str.ofString "abcdefghijklmnopqrstuvwxyz"), u, PySem.W.mg_of X G ht, hr, fun _ _ _ _ _ => .str _⟩), (let ⟨u, ht, hr⟩ := c_LONGEST_NAME; ⟨.int 8, u, PySem.W.mg_of X G ht, hr, fun _ _ _ _ _ => .int _⟩), (let ⟨u, ht, hr⟩ := c_PLAIN; ⟨.str (PySem.Str.ofString ""), u, PySem.W.mg_of X G ht, hr, fun _ _ _ _ _ => .str _⟩), (let ⟨u, ht, hr⟩ := c_NONE; ⟨.str (PySem.Str.ofString "none"), u, PySem.W.mg_of X G ht, hr, fun _ _ _ _ _ => .str _⟩), (let ⟨u, ht, hr⟩ := c_AT; ⟨.str (PySem.Str.ofString "at "), u, PySem.W.mg_of X G ht, hr, fun _ _ _ _ _ => .str _⟩), (let ⟨u, ht, hr⟩ := c_DIGITS; ⟨.str (PySem.Str.ofString "0123456789"), u, PySem.W.mg_of X G ht, hr, fun _ _ _ _ _ => .str _⟩), (let ⟨u, ht, hr⟩ := c_SAFE; ⟨.str (PySem.Str.ofString "safe"), u, PySem.W.mg_of X G ht, hr, fun _ _ _ _ _ => .str _⟩), (let ⟨u, ht, hr⟩ := c_LOST; ⟨.str (PySem.Str.ofString "lost"), u, PySem.W.mg_of X G ht, hr, fun _ _ _ _ _ => .str _⟩), (let ⟨u, ht, hr⟩ := c_START; ⟨.str (PySem.Str.ofString "start"), u, PySem.W.mg_of X G ht, hr, fun _ _ _ _ _ => .str _⟩)⟩
    exact fun x p hp => key (x, p) (PySem.mem_of_lookup hp)
  · have key : ∀ x ∈ bltFns, mg x = none := by
      unfold bltFns bltTab
      simp only [List.map_cons, List.map_nil, List.forall_mem_cons, List.not_mem_nil, false_implies, implies_true, and_true]
      exact ⟨PySem.W.mg_none_of X G z_isinstance, PySem.W.mg_none_of X G z_len, PySem.W.mg_none_of X G z_abs, PySem.W.mg_none_of X G z_max, PySem.W.mg_none_of X G z_min, PySem.W.mg_none_of X G z_int, PySem.W.mg_none_of X G z_str, PySem.W.mg_none_of X G z_tuple, PySem.W.mg_none_of X G z_list, PySem.W.mg_none_of X G z_sorted, PySem.W.mg_none_of X G z_all, PySem.W.mg_none_of X G z_any, PySem.W.mg_none_of X G z_sum⟩
    exact key
  · have key : ∀ e ∈ bltTys, mg e.1 = none := by
      unfold bltTys
      simp only [List.forall_mem_cons, List.not_mem_nil, false_implies, implies_true, and_true]
      exact ⟨PySem.W.mg_none_of X G z_int, PySem.W.mg_none_of X G z_str, PySem.W.mg_none_of X G z_bool, PySem.W.mg_none_of X G z_tuple, PySem.W.mg_none_of X G z_list⟩
    exact fun x t ht => key (x, t) (PySem.mem_of_lookup ht)
end Sn.Lk08
namespace Sn.Lk08
open PySem PySem.Spec PyProof.Rows L2
theorem bl_is_integer : b_is_integer = (.cons (.ret (.and_ (.pr (.blt .isinstance) (.cons false (.nm 0) (.cons false (.cst (.ty "int")) .nil))) (.pr .not_ (.cons false (.pr (.blt .isinstance) (.cons false (.nm 0) (.cons false (.cst (.ty "bool")) .nil))) .nil)))) .nil) := by rfl
theorem lv_is_integer (k : Nat) (args : List PV) (h : args.length = 1) (m : Mu) : Lv T (k + 1) (PySem.Str.ofString "is_integer") args m = exitS false m.length (exs (Lv T k) b_is_integer (startR 1 args) m) := by
  show runD (Lv T k) D_is_integer args m = _
  exact if_pos h
theorem bl_is_at_least : b_is_at_least = (.cons (.ret (.and_ (.call (PySem.Str.ofString "is_integer") (.cons false (.nm 0) .nil)) (.pr (.cmp .GtE) (.cons false (.nm 0) (.cons false (.nm 1) .nil))))) .nil) := by rfl
theorem lv_is_at_least (k : Nat) (args : List PV) (h : args.length = 2) (m : Mu) : Lv T (k + 1) (PySem.Str.ofString "is_at_least") args m = exitS false m.length (exs (Lv T k) b_is_at_least (startR 2 args) m) := by
  show runD (Lv T k) D_is_at_least args m = _
  exact if_pos h
theorem bl_is_name : b_is_name = (.cons (.ite (.or_ (.pr .not_ (.cons false (.pr (.blt .isinstance) (.cons false (.nm 0) (.cons false (.cst (.ty "str")) .nil))) .nil)) (.or_ (.pr (.cmp .In) (.cons false (.nm 0) (.cons false (.pr .tup (.cons false (.cst (.str (PySem.Str.ofString ""))) (.cons false (.cst (.str (PySem.Str.ofString "go"))) .nil))) .nil))) (.pr (.cmp .Gt) (.cons false (.pr (.blt .len) (.cons false (.nm 0) .nil)) (.cons false (.cst (.int 8)) .nil))))) (.cons (.ret (.cst (.bl false))) .nil) .nil) (.cons (.ret (.pr (.blt .all) (.cons false (.comp (.nm 1) (.seq (.nm 0)) [1] (.cst (.bl true)) (.pr (.cmp .In) (.cons false (.nm 1) (.cons false (.cst (.str (PySem.Str.ofString "abcdefghijklmnopqrstuvwxyz"))) .nil)))) .nil))) .nil)) := by rfl
theorem lv_is_name (k : Nat) (args : List PV) (h : args.length = 1) (m : Mu) : Lv T (k + 1) (PySem.Str.ofString "is_name") args m = exitS false m.length (exs (Lv T k) b_is_name (startR 2 args) m) := by
  show runD (Lv T k) D_is_name args m = _
  exact if_pos h
theorem bl_is_ascending : b_is_ascending = (.cons (.ret (.and_ (.pr (.cmp .Eq) (.cons false (.pr (.blt .sorted) (.cons false (.nm 0) .nil)) (.cons false (.pr .lst (.cons true (.nm 0) .nil)) .nil))) (.pr (.blt .all) (.cons false (.comp (.tup [1, 2]) (.zip (.nm 0) (.pr (.slc true false) (.cons false (.nm 0) (.cons false (.cst (.int 1)) .nil)))) [1, 2] (.cst (.bl true)) (.pr (.cmp .NotEq) (.cons false (.nm 1) (.cons false (.nm 2) .nil)))) .nil)))) .nil) := by rfl
theorem lv_is_ascending (k : Nat) (args : List PV) (h : args.length = 1) (m : Mu) : Lv T (k + 1) (PySem.Str.ofString "is_ascending") args m = exitS false m.length (exs (Lv T k) b_is_ascending (startR 3 args) m) := by
  show runD (Lv T k) D_is_ascending args m = _
  exact if_pos h
theorem bl_is_point : b_is_point = (.cons (.ret (.and_ (.pr (.blt .isinstance) (.cons false (.nm 1) (.cons false (.cst (.ty "str")) .nil))) (.or_ (.pr (.cmp .Eq) (.cons false (.nm 1) (.cons false (.cst (.str (PySem.Str.ofString "go"))) .nil))) (.pr (.cmp .In) (.cons false (.nm 1) (.cons false (.nm 0) .nil)))))) .nil) := by rfl
theorem lv_is_point (k : Nat) (args : List PV) (h : args.length = 2) (m : Mu) : Lv T (k + 1) (PySem.Str.ofString "is_point") args m = exitS false m.length (exs (Lv T k) b_is_point (startR 2 args) m) := by
  show runD (Lv T k) D_is_point args m = _
  exact if_pos h
theorem bl_is_bound : b_is_bound = (.cons (.ite (.or_ (.pr .not_ (.cons false (.pr (.blt .isinstance) (.cons false (.nm 1) (.cons false (.cst (.ty "tuple")) .nil))) .nil)) (.or_ (.pr (.cmp .NotEq) (.cons false (.pr (.blt .len) (.cons false (.nm 1) .nil)) (.cons false (.cst (.int 3)) .nil))) (.pr .not_ (.cons false (.call (PySem.Str.ofString "is_integer") (.cons false (.pr .item (.cons false (.nm 1) (.cons false (.cst (.int 2)) .nil))) .nil)) .nil)))) (.cons (.ret (.cst (.bl false))) .nil) .nil) (.cons (.ret (.and_ (.call (PySem.Str.ofString "is_point") (.cons false (.nm 0) (.cons false (.pr .item (.cons false (.nm 1) (.cons false (.cst (.int 0)) .nil))) .nil))) (.and_ (.call (PySem.Str.ofString "is_point") (.cons false (.nm 0) (.cons false (.pr .item (.cons false (.nm 1) (.cons false (.cst (.int 1)) .nil))) .nil))) (.pr (.cmp .NotEq) (.cons false (.pr .item (.cons false (.nm 1) (.cons false (.cst (.int 0)) .nil))) (.cons false (.pr .item (.cons false (.nm 1) (.cons false (.cst (.int 1)) .nil))) .nil)))))) .nil)) := by rfl
theorem lv_is_bound (k : Nat) (args : List PV) (h : args.length = 2) (m : Mu) : Lv T (k + 1) (PySem.Str.ofString "is_bound") args m = exitS false m.length (exs (Lv T k) b_is_bound (startR 2 args) m) := by
  show runD (Lv T k) D_is_bound args m = _
  exact if_pos h
theorem bl_is_task : b_is_task = (.cons (.ite (.or_ (.pr .not_ (.cons false (.pr (.blt .isinstance) (.cons false (.nm 1) (.cons false (.cst (.ty "tuple")) .nil))) .nil)) (.pr (.cmp .NotEq) (.cons false (.pr (.blt .len) (.cons false (.nm 1) .nil)) (.cons false (.cst (.int 4)) .nil)))) (.cons (.ret (.cst (.bl false))) .nil) .nil) (.cons (.set (.tup [2, 3, 4, 5]) (.nm 1)) (.cons (.ite (.or_ (.pr .not_ (.cons false (.pr (.blt .isinstance) (.cons false (.nm 2) (.cons false (.cst (.ty "str")) .nil))) .nil)) (.or_ (.pr .not_ (.cons false (.pr (.blt .isinstance) (.cons false (.nm 3) (.cons false (.cst (.ty "str")) .nil))) .nil)) (.or_ (.pr (.cmp .NotIn) (.cons false (.nm 2) (.cons false (.nm 0) .nil))) (.pr (.cmp .NotIn) (.cons false (.nm 3) (.cons false (.nm 0) .nil)))))) (.cons (.ret (.cst (.bl false))) .nil) .nil) (.cons (.ret (.and_ (.call (PySem.Str.ofString "is_at_least") (.cons false (.nm 4) (.cons false (.cst (.int 1)) .nil))) (.call (PySem.Str.ofString "is_at_least") (.cons false (.nm 5) (.cons false (.nm 4) .nil))))) .nil)))) := by rfl
theorem lv_is_task (k : Nat) (args : List PV) (h : args.length = 2) (m : Mu) : Lv T (k + 1) (PySem.Str.ofString "is_task") args m = exitS false m.length (exs (Lv T k) b_is_task (startR 6 args) m) := by
  show runD (Lv T k) D_is_task args m = _
  exact if_pos h
theorem bl_are_events : b_are_events = (.cons (.ret (.and_ (.pr (.blt .isinstance) (.cons false (.nm 0) (.cons false (.cst (.ty "tuple")) .nil))) (.and_ (.pr (.blt .all) (.cons false (.comp (.nm 1) (.seq (.nm 0)) [1] (.cst (.bl true)) (.call (PySem.Str.ofString "is_name") (.cons false (.nm 1) .nil))) .nil)) (.call (PySem.Str.ofString "is_ascending") (.cons false (.nm 0) .nil))))) .nil) := by rfl
theorem lv_are_events (k : Nat) (args : List PV) (h : args.length = 1) (m : Mu) : Lv T (k + 1) (PySem.Str.ofString "are_events") args m = exitS false m.length (exs (Lv T k) b_are_events (startR 2 args) m) := by
  show runD (Lv T k) D_are_events args m = _
  exact if_pos h
theorem bl_are_bounds : b_are_bounds = (.cons (.ite (.or_ (.pr .not_ (.cons false (.pr (.blt .isinstance) (.cons false (.nm 1) (.cons false (.cst (.ty "tuple")) .nil))) .nil)) (.pr .not_ (.cons false (.pr (.blt .all) (.cons false (.comp (.nm 2) (.seq (.nm 1)) [2] (.cst (.bl true)) (.call (PySem.Str.ofString "is_bound") (.cons false (.nm 0) (.cons false (.nm 2) .nil)))) .nil)) .nil))) (.cons (.ret (.cst (.bl false))) .nil) .nil) (.cons (.set (.nm 3) (.pr (.blt .tuple) (.cons false (.comp (.nm 2) (.seq (.nm 1)) [2] (.cst (.bl true)) (.pr (.slc false true) (.cons false (.nm 2) (.cons false (.cst (.int 2)) .nil)))) .nil))) (.cons (.ret (.call (PySem.Str.ofString "is_ascending") (.cons false (.nm 3) .nil))) .nil))) := by rfl
theorem lv_are_bounds (k : Nat) (args : List PV) (h : args.length = 2) (m : Mu) : Lv T (k + 1) (PySem.Str.ofString "are_bounds") args m = exitS false m.length (exs (Lv T k) b_are_bounds (startR 4 args) m) := by
  show runD (Lv T k) D_are_bounds args m = _
  exact if_pos h
theorem bl_begins_of : b_begins_of = (.cons (.ret (.dcomp (.tup [1, 2, 3, 4]) (.seq (.nm 0)) [1, 2, 3, 4] (.cst (.bl true)) (.nm 2) (.nm 1))) .nil) := by rfl
theorem lv_begins_of (k : Nat) (args : List PV) (h : args.length = 1) (m : Mu) : Lv T (k + 1) (PySem.Str.ofString "begins_of") args m = exitS false m.length (exs (Lv T k) b_begins_of (startR 5 args) m) := by
  show runD (Lv T k) D_begins_of args m = _
  exact if_pos h
theorem bl_is_rooted : b_is_rooted = (.cons (.set (.nm 1) (.call (PySem.Str.ofString "begins_of") (.cons false (.nm 0) .nil))) (.cons (.forN (.nm 2) 1 (.cons (.par [3, 4] (.cons false (.nm 2) (.cons false (.cst (.int 0)) .nil))) (.cons (.whl (.and_ (.pr (.cmp .In) (.cons false (.nm 3) (.cons false (.nm 1) .nil))) (.pr (.cmp .LtE) (.cons false (.nm 4) (.cons false (.pr (.blt .len) (.cons false (.nm 0) .nil)) .nil)))) (.cons (.par [3, 4] (.cons false (.pr .item (.cons false (.nm 1) (.cons false (.nm 3) .nil))) (.cons false (.pr (.bin .Add) (.cons false (.nm 4) (.cons false (.cst (.int 1)) .nil))) .nil))) .nil)) (.cons (.ite (.pr (.cmp .In) (.cons false (.nm 3) (.cons false (.nm 1) .nil))) (.cons (.ret (.cst (.bl false))) .nil) .nil) .nil)))) (.cons (.ret (.cst (.bl true))) .nil))) := by rfl
theorem lv_is_rooted (k : Nat) (args : List PV) (h : args.length = 1) (m : Mu) : Lv T (k + 1) (PySem.Str.ofString "is_rooted") args m = exitS false m.length (exs (Lv T k) b_is_rooted (startR 5 args) m) := by
  show runD (Lv T k) D_is_rooted args m = _
  exact if_pos h
theorem bl_are_tasks : b_are_tasks = (.cons (.ite (.or_ (.pr .not_ (.cons false (.pr (.blt .isinstance) (.cons false (.nm 1) (.cons false (.cst (.ty "tuple")) .nil))) .nil)) (.pr .not_ (.cons false (.pr (.blt .all) (.cons false (.comp (.nm 2) (.seq (.nm 1)) [2] (.cst (.bl true)) (.call (PySem.Str.ofString "is_task") (.cons false (.nm 0) (.cons false (.nm 2) .nil)))) .nil)) .nil))) (.cons (.ret (.cst (.bl false))) .nil) .nil) (.cons (.ret (.and_ (.call (PySem.Str.ofString "is_ascending") (.cons false (.nm 1) .nil)) (.and_ (.pr (.cmp .Eq) (.cons false (.pr (.blt .len) (.cons false (.call (PySem.Str.ofString "begins_of") (.cons false (.nm 1) .nil)) .nil)) (.cons false (.pr (.blt .len) (.cons false (.nm 1) .nil)) .nil))) (.call (PySem.Str.ofString "is_rooted") (.cons false (.nm 1) .nil))))) .nil)) := by rfl
theorem lv_are_tasks (k : Nat) (args : List PV) (h : args.length = 2) (m : Mu) : Lv T (k + 1) (PySem.Str.ofString "are_tasks") args m = exitS false m.length (exs (Lv T k) b_are_tasks (startR 3 args) m) := by
  show runD (Lv T k) D_are_tasks args m = _
  exact if_pos h
theorem bl_is_plan : b_is_plan = (.cons (.ite (.or_ (.pr .not_ (.cons false (.pr (.blt .isinstance) (.cons false (.nm 0) (.cons false (.cst (.ty "tuple")) .nil))) .nil)) (.pr (.cmp .NotEq) (.cons false (.pr (.blt .len) (.cons false (.nm 0) .nil)) (.cons false (.cst (.int 4)) .nil)))) (.cons (.ret (.cst (.bl false))) .nil) .nil) (.cons (.set (.tup [1, 2, 3, 4]) (.nm 0)) (.cons (.ret (.and_ (.call (PySem.Str.ofString "is_at_least") (.cons false (.nm 1) (.cons false (.cst (.int 0)) .nil))) (.and_ (.call (PySem.Str.ofString "are_events") (.cons false (.nm 2) .nil)) (.and_ (.call (PySem.Str.ofString "are_bounds") (.cons false (.nm 2) (.cons false (.nm 3) .nil))) (.call (PySem.Str.ofString "are_tasks") (.cons false (.nm 2) (.cons false (.nm 4) .nil))))))) .nil))) := by rfl
theorem lv_is_plan (k : Nat) (args : List PV) (h : args.length = 1) (m : Mu) : Lv T (k + 1) (PySem.Str.ofString "is_plan") args m = exitS false m.length (exs (Lv T k) b_is_plan (startR 5 args) m) := by
  show runD (Lv T k) D_is_plan args m = _
  exact if_pos h
theorem bl_check_plan : b_check_plan = (.cons (.ite (.pr .not_ (.cons false (.call (PySem.Str.ofString "is_plan") (.cons false (.nm 0) .nil)) .nil)) (.cons .bad .nil) .nil) .nil) := by rfl
theorem lv_check_plan (k : Nat) (args : List PV) (h : args.length = 1) (m : Mu) : Lv T (k + 1) (PySem.Str.ofString "check_plan") args m = exitS false m.length (exs (Lv T k) b_check_plan (startR 1 args) m) := by
  show runD (Lv T k) D_check_plan args m = _
  exact if_pos h
theorem bl_moment_of : b_moment_of = (.cons (.ret (.ite (.pr (.cmp .Eq) (.cons false (.nm 2) (.cons false (.cst (.str (PySem.Str.ofString "go"))) .nil))) (.cst (.int 0)) (.pr .item (.cons false (.nm 1) (.cons false (.idx (.pr .item (.cons false (.nm 0) (.cons false (.cst (.int 1)) .nil))) (.nm 2)) .nil))))) .nil) := by rfl
theorem lv_moment_of (k : Nat) (args : List PV) (h : args.length = 3) (m : Mu) : Lv T (k + 1) (PySem.Str.ofString "moment_of") args m = exitS false m.length (exs (Lv T k) b_moment_of (startR 3 args) m) := by
  show runD (Lv T k) D_moment_of args m = _
  exact if_pos h
theorem bl_are_moments : b_are_moments = (.cons (.ite (.or_ (.pr .not_ (.cons false (.pr (.blt .isinstance) (.cons false (.nm 2) (.cons false (.cst (.ty "tuple")) .nil))) .nil)) (.pr (.cmp .NotEq) (.cons false (.pr (.blt .len) (.cons false (.nm 2) .nil)) (.cons false (.pr (.blt .len) (.cons false (.pr .item (.cons false (.nm 0) (.cons false (.cst (.int 1)) .nil))) .nil)) .nil)))) (.cons (.ret (.cst (.bl false))) .nil) .nil) (.cons (.ret (.pr (.blt .all) (.cons false (.comp (.nm 3) (.seq (.nm 2)) [3] (.cst (.bl true)) (.or_ (.pr (.cmp .Is) (.cons false (.nm 3) (.cons false (.cst .non) .nil))) (.and_ (.call (PySem.Str.ofString "is_at_least") (.cons false (.nm 3) (.cons false (.cst (.int 0)) .nil))) (.pr (.cmp .LtE) (.cons false (.nm 3) (.cons false (.nm 1) .nil)))))) .nil))) .nil)) := by rfl
theorem lv_are_moments (k : Nat) (args : List PV) (h : args.length = 3) (m : Mu) : Lv T (k + 1) (PySem.Str.ofString "are_moments") args m = exitS false m.length (exs (Lv T k) b_are_moments (startR 4 args) m) := by
  show runD (Lv T k) D_are_moments args m = _
  exact if_pos h
theorem bl_is_history_of : b_is_history_of = (.cons (.ite (.or_ (.pr .not_ (.cons false (.pr (.blt .isinstance) (.cons false (.nm 1) (.cons false (.cst (.ty "tuple")) .nil))) .nil)) (.or_ (.pr (.cmp .NotEq) (.cons false (.pr (.blt .len) (.cons false (.nm 1) .nil)) (.cons false (.cst (.int 2)) .nil))) (.pr .not_ (.cons false (.call (PySem.Str.ofString "is_at_least") (.cons false (.pr .item (.cons false (.nm 1) (.cons false (.cst (.int 0)) .nil))) (.cons false (.cst (.int 0)) .nil))) .nil)))) (.cons (.ret (.cst (.bl false))) .nil) .nil) (.cons (.set (.tup [2, 3]) (.nm 1)) (.cons (.ite (.pr .not_ (.cons false (.call (PySem.Str.ofString "are_moments") (.cons false (.nm 0) (.cons false (.nm 2) (.cons false (.nm 3) .nil)))) .nil)) (.cons (.ret (.cst (.bl false))) .nil) .nil) (.cons (.for_ (.tup [4, 5, 6, 7]) (.seq (.pr .item (.cons false (.nm 0) (.cons false (.cst (.int 3)) .nil)))) (.cons (.par [8, 9] (.cons false (.call (PySem.Str.ofString "moment_of") (.cons false (.nm 0) (.cons false (.nm 3) (.cons false (.nm 4) .nil)))) (.cons false (.call (PySem.Str.ofString "moment_of") (.cons false (.nm 0) (.cons false (.nm 3) (.cons false (.nm 5) .nil)))) .nil))) (.cons (.ite (.and_ (.pr (.cmp .IsNot) (.cons false (.nm 9) (.cons false (.cst .non) .nil))) (.or_ (.pr (.cmp .Is) (.cons false (.nm 8) (.cons false (.cst .non) .nil))) (.pr .not_ (.cons false (.chn (.nm 6) .LtE (.pr (.bin .Sub) (.cons false (.nm 9) (.cons false (.nm 8) .nil))) .LtE (.nm 7)) .nil)))) (.cons (.ret (.cst (.bl false))) .nil) .nil) (.cons (.ite (.and_ (.pr (.cmp .Is) (.cons false (.nm 9) (.cons false (.cst .non) .nil))) (.and_ (.pr (.cmp .IsNot) (.cons false (.nm 8) (.cons false (.cst .non) .nil))) (.pr (.cmp .GtE) (.cons false (.pr (.bin .Sub) (.cons false (.nm 2) (.cons false (.nm 8) .nil))) (.cons false (.nm 7) .nil))))) (.cons (.ret (.cst (.bl false))) .nil) .nil) .nil)))) (.cons (.ret (.cst (.bl true))) .nil))))) := by rfl
theorem lv_is_history_of (k : Nat) (args : List PV) (h : args.length = 2) (m : Mu) : Lv T (k + 1) (PySem.Str.ofString "is_history_of") args m = exitS false m.length (exs (Lv T k) b_is_history_of (startR 10 args) m) := by
  show runD (Lv T k) D_is_history_of args m = _
  exact if_pos h
theorem bl_is_history : b_is_history = (.cons (.exp (.call (PySem.Str.ofString "check_plan") (.cons false (.nm 0) .nil))) (.cons (.ret (.call (PySem.Str.ofString "is_history_of") (.cons false (.nm 0) (.cons false (.nm 1) .nil)))) .nil)) := by rfl
theorem lv_is_history (k : Nat) (args : List PV) (h : args.length = 2) (m : Mu) : Lv T (k + 1) (PySem.Str.ofString "is_history") args m = exitS false m.length (exs (Lv T k) b_is_history (startR 2 args) m) := by
  show runD (Lv T k) D_is_history args m = _
  exact if_pos h
theorem bl__law_sack : b__law_sack = (.cons (.set (.nm 2) (.ite (.pr (.cmp .Lt) (.cons false (.nm 1) (.cons false (.pr (.blt .len) (.cons false (.nm 0) .nil)) .nil))) (.pr .item (.cons false (.nm 0) (.cons false (.nm 1) .nil))) (.cst (.int 0)))) (.cons (.ret (.thw (.pr .lst (.cons false (.pr (.blt .max) (.cons false (.cst (.int 0)) (.cons false (.pr (.bin .Sub) (.cons false (.pr (.blt .abs) (.cons false (.nm 2) .nil)) (.cons false (.pr (.bin .Pow) (.cons false (.cst (.int 10)) (.cons false (.cst (.int 18)) .nil))) .nil))) .nil))) (.cons false (.pr (.bin .Add) (.cons false (.pr (.bin .Add) (.cons false (.pr (.bin .Mult) (.cons false (.pr (.bin .Mod) (.cons false (.pr (.blt .int) (.cons false (.nm 2) .nil)) (.cons false (.pr (.bin .Add) (.cons false (.pr (.bin .Pow) (.cons false (.cst (.int 10)) (.cons false (.cst (.int 39)) .nil))) (.cons false (.cst (.int 3)) .nil))) .nil))) (.cons false (.cst (.int 79)) .nil))) (.cons false (.pr (.bin .Mult) (.cons false (.cst (.int 73)) (.cons false (.nm 1) .nil))) .nil))) (.cons false (.cst (.int 61)) .nil))) (.cons false (.cst (.int 0)) .nil)))))) .nil)) := by rfl
theorem lv__law_sack (k : Nat) (args : List PV) (h : args.length = 2) (m : Mu) : Lv T (k + 1) (PySem.Str.ofString "_law_sack") args m = exitS true m.length (exs (Lv T k) b__law_sack (startR 3 args) m) := by
  show runD (Lv T k) D__law_sack args m = _
  exact if_pos h
theorem bl__law_dip : b__law_dip = (.cons (.ite (.pr (.cmp .Gt) (.cons false (.pr .item (.cons false (.nm 0) (.cons false (.cst (.int 0)) .nil))) (.cons false (.cst (.int 0)) .nil))) (.cons (.set (.nm 2) (.pr (.bin .Mod) (.cons false (.pr (.blt .int) (.cons false (.pr .item (.cons false (.nm 0) (.cons false (.cst (.int 0)) .nil))) .nil)) (.cons false (.nm 1) .nil)))) (.cons (.sti (.pr (.bin .FloorDiv) (.cons false (.pr .item (.cons false (.nm 0) (.cons false (.cst (.int 0)) .nil))) (.cons false (.nm 1) .nil))) (.nm 0) (.cst (.int 0))) (.cons (.ret (.nm 2)) .nil))) .nil) (.cons (.sti (.pr (.bin .Add) (.cons false (.pr .item (.cons false (.nm 0) (.cons false (.cst (.int 2)) .nil))) (.cons false (.cst (.int 1)) .nil))) (.nm 0) (.cst (.int 2))) (.cons (.set (.nm 3) (.pr (.bin .Mod) (.cons false (.pr (.bin .Pow) (.cons false (.pr (.blt .int) (.cons false (.pr (.bin .Add) (.cons false (.pr .item (.cons false (.nm 0) (.cons false (.cst (.int 1)) .nil))) (.cons false (.pr (.bin .Mult) (.cons false (.cst (.int 60013)) (.cons false (.pr .item (.cons false (.nm 0) (.cons false (.cst (.int 2)) .nil))) .nil))) .nil))) .nil)) (.cons false (.cst (.int 2)) .nil))) (.cons false (.pr (.bin .Add) (.cons false (.pr (.bin .Pow) (.cons false (.cst (.int 10)) (.cons false (.cst (.int 37)) .nil))) (.cons false (.cst (.int 43)) .nil))) .nil)))) (.cons (.set (.nm 3) (.pr (.bin .Mod) (.cons false (.pr (.bin .Pow) (.cons false (.pr (.blt .int) (.cons false (.pr (.bin .Add) (.cons false (.nm 3) (.cons false (.pr (.bin .Mult) (.cons false (.cst (.int 1300021)) (.cons false (.pr .item (.cons false (.nm 0) (.cons false (.cst (.int 2)) .nil))) .nil))) .nil))) .nil)) (.cons false (.cst (.int 3)) .nil))) (.cons false (.pr (.bin .Add) (.cons false (.pr (.bin .Pow) (.cons false (.cst (.int 10)) (.cons false (.cst (.int 38)) .nil))) (.cons false (.cst (.int 133)) .nil))) .nil)))) (.cons (.ret (.pr (.bin .Mod) (.cons false (.pr (.bin .FloorDiv) (.cons false (.nm 3) (.cons false (.cst (.int 32768)) .nil))) (.cons false (.nm 1) .nil)))) .nil))))) := by rfl
theorem lv__law_dip (k : Nat) (args : List PV) (h : args.length = 2) (m : Mu) : Lv T (k + 1) (PySem.Str.ofString "_law_dip") args m = exitS false m.length (exs (Lv T k) b__law_dip (startR 4 args) m) := by
  show runD (Lv T k) D__law_dip args m = _
  exact if_pos h
theorem bl__law_twin : b__law_twin = (.cons (.ite (.or_ (.pr (.blt .isinstance) (.cons false (.nm 0) (.cons false (.cst (.ty "bool")) .nil))) (.pr (.blt .isinstance) (.cons false (.nm 1) (.cons false (.cst (.ty "bool")) .nil)))) (.cons (.ret (.and_ (.pr (.blt .isinstance) (.cons false (.nm 0) (.cons false (.cst (.ty "bool")) .nil))) (.and_ (.pr (.blt .isinstance) (.cons false (.nm 1) (.cons false (.cst (.ty "bool")) .nil))) (.pr (.cmp .Eq) (.cons false (.nm 0) (.cons false (.nm 1) .nil)))))) .nil) .nil) (.cons (.ite (.or_ (.pr (.cmp .NotEq) (.cons false (.pr (.blt .isinstance) (.cons false (.nm 0) (.cons false (.cst (.ty "list")) .nil))) (.cons false (.pr (.blt .isinstance) (.cons false (.nm 1) (.cons false (.cst (.ty "list")) .nil))) .nil))) (.pr (.cmp .NotEq) (.cons false (.pr (.blt .isinstance) (.cons false (.nm 0) (.cons false (.cst (.ty "tuple")) .nil))) (.cons false (.pr (.blt .isinstance) (.cons false (.nm 1) (.cons false (.cst (.ty "tuple")) .nil))) .nil)))) (.cons (.ret (.cst (.bl false))) .nil) .nil) (.cons (.ite (.or_ (.pr (.cmp .NotEq) (.cons false (.pr (.blt .isinstance) (.cons false (.nm 0) (.cons false (.cst (.ty "str")) .nil))) (.cons false (.pr (.blt .isinstance) (.cons false (.nm 1) (.cons false (.cst (.ty "str")) .nil))) .nil))) (.pr (.cmp .NotEq) (.cons false (.pr (.blt .isinstance) (.cons false (.nm 0) (.cons false (.cst (.ty "int")) .nil))) (.cons false (.pr (.blt .isinstance) (.cons false (.nm 1) (.cons false (.cst (.ty "int")) .nil))) .nil)))) (.cons (.ret (.cst (.bl false))) .nil) .nil) (.cons (.ite (.pr (.blt .isinstance) (.cons false (.nm 1) (.cons false (.pr .ktup (.cons false (.cst (.ty "list")) (.cons false (.cst (.ty "tuple")) .nil))) .nil))) (.cons (.ite (.pr (.cmp .NotEq) (.cons false (.pr (.blt .len) (.cons false (.nm 0) .nil)) (.cons false (.pr (.blt .len) (.cons false (.nm 1) .nil)) .nil))) (.cons (.ret (.cst (.bl false))) .nil) .nil) (.cons (.ret (.pr (.cmp .Eq) (.cons false (.comp (.nm 2) (.rng (.pr (.blt .len) (.cons false (.nm 1) .nil))) [2] (.pr .not_ (.cons false (.call (PySem.Str.ofString "_law_twin") (.cons false (.pr .item (.cons false (.nm 0) (.cons false (.nm 2) .nil))) (.cons false (.pr .item (.cons false (.nm 1) (.cons false (.nm 2) .nil))) .nil))) .nil)) (.nm 2)) (.cons false (.pr .lst .nil) .nil)))) .nil)) .nil) (.cons (.ret (.and_ (.pr (.cmp .Eq) (.cons false (.pr (.cmp .Is) (.cons false (.nm 0) (.cons false (.cst .non) .nil))) (.cons false (.pr (.cmp .Is) (.cons false (.nm 1) (.cons false (.cst .non) .nil))) .nil))) (.pr (.cmp .Eq) (.cons false (.nm 0) (.cons false (.nm 1) .nil))))) .nil))))) := by rfl
theorem lv__law_twin (k : Nat) (args : List PV) (h : args.length = 2) (m : Mu) : Lv T (k + 1) (PySem.Str.ofString "_law_twin") args m = exitS false m.length (exs (Lv T k) b__law_twin (startR 3 args) m) := by
  show runD (Lv T k) D__law_twin args m = _
  exact if_pos h
theorem bl__law_jobs : b__law_jobs = (.cons (.par [4, 5] (.cons false (.thw (.pr .lst .nil)) (.cons false (.pr (.blt .list) (.cons false (.nm 1) .nil)) .nil))) (.cons (.for_ (.nm 6) (.rng (.nm 2)) (.cons (.ite (.and_ (.pr (.cmp .Gt) (.cons false (.pr (.blt .len) (.cons false (.nm 5) .nil)) (.cons false (.cst (.int 1)) .nil))) (.pr (.cmp .Gt) (.cons false (.call (PySem.Str.ofString "_law_dip") (.cons false (.nm 0) (.cons false (.cst (.int 4)) .nil))) (.cons false (.cst (.int 0)) .nil)))) (.cons (.set (.nm 7) (.pr .item (.cons false (.nm 5) (.cons false (.call (PySem.Str.ofString "_law_dip") (.cons false (.nm 0) (.cons false (.pr (.blt .len) (.cons false (.nm 5) .nil)) .nil))) .nil)))) (.cons (.set (.nm 5) (.comp (.nm 10) (.seq (.nm 5)) [10] (.pr (.cmp .NotEq) (.cons false (.nm 10) (.cons false (.nm 7) .nil))) (.nm 10))) (.cons (.set (.nm 8) (.pr .item (.cons false (.nm 5) (.cons false (.call (PySem.Str.ofString "_law_dip") (.cons false (.nm 0) (.cons false (.pr (.blt .len) (.cons false (.nm 5) .nil)) .nil))) .nil)))) (.cons (.set (.nm 9) (.pr (.bin .Add) (.cons false (.cst (.int 1)) (.cons false (.call (PySem.Str.ofString "_law_dip") (.cons false (.nm 0) (.cons false (.nm 3) .nil))) .nil)))) (.cons (.app (.nm 4) (.pr .tup (.cons false (.nm 8) (.cons false (.nm 7) (.cons false (.nm 9) (.cons false (.pr (.bin .Add) (.cons false (.nm 9) (.cons false (.pr .item (.cons false (.pr .lst (.cons false (.cst (.int 0)) (.cons false (.call (PySem.Str.ofString "_law_dip") (.cons false (.nm 0) (.cons false (.cst (.int 3)) .nil))) (.cons false (.call (PySem.Str.ofString "_law_dip") (.cons false (.nm 0) (.cons false (.nm 3) .nil))) .nil)))) (.cons false (.call (PySem.Str.ofString "_law_dip") (.cons false (.nm 0) (.cons false (.cst (.int 3)) .nil))) .nil))) .nil))) .nil)))))) .nil))))) .nil) .nil)) (.cons (.ret (.pr (.blt .tuple) (.cons false (.pr (.blt .sorted) (.cons false (.nm 4) .nil)) .nil))) .nil))) := by rfl
theorem lv__law_jobs (k : Nat) (args : List PV) (h : args.length = 4) (m : Mu) : Lv T (k + 1) (PySem.Str.ofString "_law_jobs") args m = exitS false m.length (exs (Lv T k) b__law_jobs (startR 11 args) m) := by
  show runD (Lv T k) D__law_jobs args m = _
  exact if_pos h
theorem bl__law_worth : b__law_worth = (.cons (.ret (.ite (.pr (.cmp .Eq) (.cons false (.nm 2) (.cons false (.cst (.str (PySem.Str.ofString "go"))) .nil))) (.cst (.int 0)) (.pr .item (.cons false (.nm 1) (.cons false (.idx (.pr .item (.cons false (.nm 0) (.cons false (.cst (.int 1)) .nil))) (.nm 2)) .nil))))) .nil) := by rfl
theorem lv__law_worth (k : Nat) (args : List PV) (h : args.length = 3) (m : Mu) : Lv T (k + 1) (PySem.Str.ofString "_law_worth") args m = exitS false m.length (exs (Lv T k) b__law_worth (startR 3 args) m) := by
  show runD (Lv T k) D__law_worth args m = _
  exact if_pos h
theorem bl__law_little : b__law_little = (.cons (.set (.nm 3) (.call (PySem.Str.ofString "_law_titles") (.cons false (.nm 0) (.cons false (.pr (.bin .Add) (.cons false (.cst (.int 1)) (.cons false (.call (PySem.Str.ofString "_law_dip") (.cons false (.nm 0) (.cons false (.nm 1) .nil))) .nil))) .nil)))) (.cons (.set (.nm 4) (.call (PySem.Str.ofString "_law_jobs") (.cons false (.nm 0) (.cons false (.nm 3) (.cons false (.pr (.bin .Add) (.cons false (.cst (.int 1)) (.cons false (.call (PySem.Str.ofString "_law_dip") (.cons false (.nm 0) (.cons false (.cst (.int 3)) .nil))) .nil))) (.cons false (.cst (.int 2)) .nil)))))) (.cons (.ret (.pr .tup (.cons false (.pr (.bin .Sub) (.cons false (.nm 2) (.cons false (.call (PySem.Str.ofString "_law_dip") (.cons false (.nm 0) (.cons false (.cst (.int 3)) .nil))) .nil))) (.cons false (.nm 3) (.cons false (.call (PySem.Str.ofString "_law_few_limits") (.cons false (.nm 0) (.cons false (.nm 3) (.cons false (.cst (.int 4)) (.cons false (.cst (.int 3)) .nil))))) (.cons false (.nm 4) .nil)))))) .nil))) := by rfl
theorem lv__law_little (k : Nat) (args : List PV) (h : args.length = 3) (m : Mu) : Lv T (k + 1) (PySem.Str.ofString "_law_little") args m = exitS false m.length (exs (Lv T k) b__law_little (startR 5 args) m) := by
  show runD (Lv T k) D__law_little args m = _
  exact if_pos h
theorem bl__law_own : b__law_own = (.cons (.set (.nm 1) (.comp (.nm 2) (.seq (.pr .item (.cons false (.nm 0) (.cons false (.cst (.int 3)) .nil)))) [2] (.cst (.bl true)) (.pr .item (.cons false (.nm 2) (.cons false (.cst (.int 1)) .nil))))) (.cons (.ret (.comp (.nm 3) (.seq (.pr .item (.cons false (.nm 0) (.cons false (.cst (.int 1)) .nil)))) [3] (.pr (.cmp .NotIn) (.cons false (.nm 3) (.cons false (.nm 1) .nil))) (.nm 3))) .nil)) := by rfl
theorem lv__law_own (k : Nat) (args : List PV) (h : args.length = 1) (m : Mu) : Lv T (k + 1) (PySem.Str.ofString "_law_own") args m = exitS false m.length (exs (Lv T k) b__law_own (startR 4 args) m) := by
  show runD (Lv T k) D__law_own args m = _
  exact if_pos h
theorem bl__law_put : b__law_put = (.cons (.set (.nm 4) (.idx (.pr .item (.cons false (.nm 0) (.cons false (.cst (.int 1)) .nil))) (.nm 2))) (.cons (.ret (.pr (.bin .Add) (.cons false (.pr (.bin .Add) (.cons false (.pr (.slc false true) (.cons false (.nm 1) (.cons false (.nm 4) .nil))) (.cons false (.pr .tup (.cons false (.nm 3) .nil)) .nil))) (.cons false (.pr (.slc true false) (.cons false (.nm 1) (.cons false (.pr (.bin .Add) (.cons false (.nm 4) (.cons false (.cst (.int 1)) .nil))) .nil))) .nil)))) .nil)) := by rfl
theorem lv__law_put (k : Nat) (args : List PV) (h : args.length = 4) (m : Mu) : Lv T (k + 1) (PySem.Str.ofString "_law_put") args m = exitS false m.length (exs (Lv T k) b__law_put (startR 5 args) m) := by
  show runD (Lv T k) D__law_put args m = _
  exact if_pos h
theorem bl__law_starts : b__law_starts = (.cons (.set (.nm 3) (.pr .lst (.cons false (.nm 2) .nil))) (.cons (.for_ (.nm 4) (.seq (.call (PySem.Str.ofString "_law_own") (.cons false (.nm 0) .nil))) (.cons (.ite (.pr (.cmp .Is) (.cons false (.call (PySem.Str.ofString "_law_worth") (.cons false (.nm 0) (.cons false (.nm 2) (.cons false (.nm 4) .nil)))) (.cons false (.cst .non) .nil))) (.cons (.set (.nm 3) (.pr (.bin .Add) (.cons false (.nm 3) (.cons false (.comp (.nm 5) (.seq (.nm 3)) [5] (.cst (.bl true)) (.call (PySem.Str.ofString "_law_put") (.cons false (.nm 0) (.cons false (.nm 5) (.cons false (.nm 4) (.cons false (.nm 1) .nil)))))) .nil)))) .nil) .nil) .nil)) (.cons (.ret (.nm 3)) .nil))) := by rfl
theorem lv__law_starts (k : Nat) (args : List PV) (h : args.length = 3) (m : Mu) : Lv T (k + 1) (PySem.Str.ofString "_law_starts") args m = exitS false m.length (exs (Lv T k) b__law_starts (startR 6 args) m) := by
  show runD (Lv T k) D__law_starts args m = _
  exact if_pos h
theorem bl__law_stops : b__law_stops = (.cons (.set (.nm 3) (.pr .lst (.cons false (.nm 2) .nil))) (.cons (.for_ (.tup [4, 5, 6, 7]) (.seq (.pr .item (.cons false (.nm 0) (.cons false (.cst (.int 3)) .nil)))) (.cons (.set (.nm 8) (.call (PySem.Str.ofString "_law_worth") (.cons false (.nm 0) (.cons false (.nm 2) (.cons false (.nm 4) .nil))))) (.cons (.ite (.and_ (.pr (.cmp .IsNot) (.cons false (.nm 8) (.cons false (.cst .non) .nil))) (.and_ (.pr (.cmp .Is) (.cons false (.call (PySem.Str.ofString "_law_worth") (.cons false (.nm 0) (.cons false (.nm 2) (.cons false (.nm 5) .nil)))) (.cons false (.cst .non) .nil))) (.pr (.cmp .GtE) (.cons false (.pr (.bin .Sub) (.cons false (.nm 1) (.cons false (.nm 8) .nil))) (.cons false (.nm 6) .nil))))) (.cons (.set (.nm 9) (.comp (.nm 10) (.seq (.nm 3)) [10] (.cst (.bl true)) (.call (PySem.Str.ofString "_law_put") (.cons false (.nm 0) (.cons false (.nm 10) (.cons false (.nm 5) (.cons false (.nm 1) .nil))))))) (.cons (.set (.nm 3) (.ite (.pr (.cmp .GtE) (.cons false (.pr (.bin .Sub) (.cons false (.nm 1) (.cons false (.nm 8) .nil))) (.cons false (.nm 7) .nil))) (.nm 9) (.pr (.bin .Add) (.cons false (.nm 3) (.cons false (.nm 9) .nil))))) .nil)) .nil) .nil))) (.cons (.ret (.nm 3)) .nil))) := by rfl
theorem lv__law_stops (k : Nat) (args : List PV) (h : args.length = 3) (m : Mu) : Lv T (k + 1) (PySem.Str.ofString "_law_stops") args m = exitS false m.length (exs (Lv T k) b__law_stops (startR 11 args) m) := by
  show runD (Lv T k) D__law_stops args m = _
  exact if_pos h
theorem bl__law_nothing : b__law_nothing = (.cons (.ret (.pr (.blt .tuple) (.cons false (.comp (.nm 1) (.seq (.pr .item (.cons false (.nm 0) (.cons false (.cst (.int 1)) .nil)))) [1] (.cst (.bl true)) (.cst .non)) .nil))) .nil) := by rfl
theorem lv__law_nothing (k : Nat) (args : List PV) (h : args.length = 1) (m : Mu) : Lv T (k + 1) (PySem.Str.ofString "_law_nothing") args m = exitS false m.length (exs (Lv T k) b__law_nothing (startR 2 args) m) := by
  show runD (Lv T k) D__law_nothing args m = _
  exact if_pos h
theorem bl__law_walked : b__law_walked = (.cons (.par [3, 4] (.cons false (.call (PySem.Str.ofString "_law_nothing") (.cons false (.nm 1) .nil)) (.cons false (.cst (.int 0)) .nil))) (.cons (.set (.nm 5) (.call (PySem.Str.ofString "_law_dip") (.cons false (.nm 0) (.cons false (.pr (.bin .Add) (.cons false (.nm 2) (.cons false (.cst (.int 1)) .nil))) .nil)))) (.cons (.for_ (.nm 6) (.rng (.pr (.bin .Add) (.cons false (.nm 5) (.cons false (.cst (.int 1)) .nil)))) (.cons (.set (.nm 7) (.call (PySem.Str.ofString "_law_starts") (.cons false (.nm 1) (.cons false (.nm 4) (.cons false (.nm 3) .nil))))) (.cons (.set (.nm 3) (.ite (.pr (.cmp .Eq) (.cons false (.call (PySem.Str.ofString "_law_dip") (.cons false (.nm 0) (.cons false (.cst (.int 2)) .nil))) (.cons false (.cst (.int 0)) .nil))) (.pr .item (.cons false (.nm 7) (.cons false (.cst (.int 0)) .nil))) (.pr .item (.cons false (.nm 7) (.cons false (.call (PySem.Str.ofString "_law_dip") (.cons false (.nm 0) (.cons false (.pr (.blt .len) (.cons false (.nm 7) .nil)) .nil))) .nil))))) (.cons (.ite (.pr (.cmp .Lt) (.cons false (.nm 6) (.cons false (.nm 5) .nil))) (.cons (.set (.nm 4) (.pr (.bin .Add) (.cons false (.nm 4) (.cons false (.cst (.int 1)) .nil)))) (.cons (.set (.nm 7) (.call (PySem.Str.ofString "_law_stops") (.cons false (.nm 1) (.cons false (.nm 4) (.cons false (.nm 3) .nil))))) (.cons (.set (.nm 3) (.pr .item (.cons false (.nm 7) (.cons false (.call (PySem.Str.ofString "_law_dip") (.cons false (.nm 0) (.cons false (.pr (.blt .len) (.cons false (.nm 7) .nil)) .nil))) .nil)))) .nil))) .nil) .nil)))) (.cons (.ret (.pr .tup (.cons false (.nm 4) (.cons false (.nm 3) .nil)))) .nil)))) := by rfl
theorem lv__law_walked (k : Nat) (args : List PV) (h : args.length = 3) (m : Mu) : Lv T (k + 1) (PySem.Str.ofString "_law_walked") args m = exitS false m.length (exs (Lv T k) b__law_walked (startR 8 args) m) := by
  show runD (Lv T k) D__law_walked args m = _
  exact if_pos h
theorem bl__law_is_whole : b__law_is_whole = (.cons (.ret (.and_ (.pr (.blt .isinstance) (.cons false (.nm 0) (.cons false (.cst (.ty "int")) .nil))) (.and_ (.pr .not_ (.cons false (.pr (.blt .isinstance) (.cons false (.nm 0) (.cons false (.cst (.ty "bool")) .nil))) .nil)) (.pr (.cmp .GtE) (.cons false (.nm 0) (.cons false (.nm 1) .nil)))))) .nil) := by rfl
theorem lv__law_is_whole (k : Nat) (args : List PV) (h : args.length = 2) (m : Mu) : Lv T (k + 1) (PySem.Str.ofString "_law_is_whole") args m = exitS false m.length (exs (Lv T k) b__law_is_whole (startR 2 args) m) := by
  show runD (Lv T k) D__law_is_whole args m = _
  exact if_pos h
theorem bl__law_is_past : b__law_is_past = (.cons (.ite (.or_ (.pr .not_ (.cons false (.pr (.blt .isinstance) (.cons false (.nm 1) (.cons false (.cst (.ty "tuple")) .nil))) .nil)) (.pr (.cmp .NotEq) (.cons false (.pr (.blt .len) (.cons false (.nm 1) .nil)) (.cons false (.cst (.int 2)) .nil)))) (.cons (.ret (.cst (.bl false))) .nil) .nil) (.cons (.ite (.or_ (.pr .not_ (.cons false (.call (PySem.Str.ofString "_law_is_whole") (.cons false (.pr .item (.cons false (.nm 1) (.cons false (.cst (.int 0)) .nil))) (.cons false (.cst (.int 0)) .nil))) .nil)) (.pr .not_ (.cons false (.pr (.blt .isinstance) (.cons false (.pr .item (.cons false (.nm 1) (.cons false (.cst (.int 1)) .nil))) (.cons false (.cst (.ty "tuple")) .nil))) .nil))) (.cons (.ret (.cst (.bl false))) .nil) .nil) (.cons (.set (.tup [2, 3]) (.nm 1)) (.cons (.ite (.pr (.cmp .NotEq) (.cons false (.pr (.blt .len) (.cons false (.nm 3) .nil)) (.cons false (.pr (.blt .len) (.cons false (.pr .item (.cons false (.nm 0) (.cons false (.cst (.int 1)) .nil))) .nil)) .nil))) (.cons (.ret (.cst (.bl false))) .nil) .nil) (.cons (.ite (.pr (.cmp .NotEq) (.cons false (.comp (.nm 4) (.seq (.nm 3)) [4] (.and_ (.pr (.cmp .IsNot) (.cons false (.nm 4) (.cons false (.cst .non) .nil))) (.or_ (.pr .not_ (.cons false (.call (PySem.Str.ofString "_law_is_whole") (.cons false (.nm 4) (.cons false (.cst (.int 0)) .nil))) .nil)) (.pr (.cmp .Gt) (.cons false (.nm 4) (.cons false (.nm 2) .nil))))) (.nm 4)) (.cons false (.pr .lst .nil) .nil))) (.cons (.ret (.cst (.bl false))) .nil) .nil) (.cons (.for_ (.tup [5, 6, 7, 8]) (.seq (.pr .item (.cons false (.nm 0) (.cons false (.cst (.int 3)) .nil)))) (.cons (.par [9, 10] (.cons false (.call (PySem.Str.ofString "_law_worth") (.cons false (.nm 0) (.cons false (.nm 3) (.cons false (.nm 5) .nil)))) (.cons false (.call (PySem.Str.ofString "_law_worth") (.cons false (.nm 0) (.cons false (.nm 3) (.cons false (.nm 6) .nil)))) .nil))) (.cons (.ite (.and_ (.pr (.cmp .IsNot) (.cons false (.nm 10) (.cons false (.cst .non) .nil))) (.or_ (.pr (.cmp .Is) (.cons false (.nm 9) (.cons false (.cst .non) .nil))) (.or_ (.pr (.cmp .Lt) (.cons false (.pr (.bin .Sub) (.cons false (.nm 10) (.cons false (.nm 9) .nil))) (.cons false (.nm 7) .nil))) (.pr (.cmp .Gt) (.cons false (.pr (.bin .Sub) (.cons false (.nm 10) (.cons false (.nm 9) .nil))) (.cons false (.nm 8) .nil)))))) (.cons (.ret (.cst (.bl false))) .nil) .nil) (.cons (.ite (.and_ (.pr (.cmp .Is) (.cons false (.nm 10) (.cons false (.cst .non) .nil))) (.and_ (.pr (.cmp .IsNot) (.cons false (.nm 9) (.cons false (.cst .non) .nil))) (.pr (.cmp .GtE) (.cons false (.pr (.bin .Sub) (.cons false (.nm 2) (.cons false (.nm 9) .nil))) (.cons false (.nm 8) .nil))))) (.cons (.ret (.cst (.bl false))) .nil) .nil) .nil)))) (.cons (.ret (.cst (.bl true))) .nil))))))) := by rfl
theorem lv__law_is_past (k : Nat) (args : List PV) (h : args.length = 2) (m : Mu) : Lv T (k + 1) (PySem.Str.ofString "_law_is_past") args m = exitS false m.length (exs (Lv T k) b__law_is_past (startR 11 args) m) := by
  show runD (Lv T k) D__law_is_past args m = _
  exact if_pos h
theorem bl__law_bent_part : b__law_bent_part = (.cons (.set (.tup [2, 3]) (.nm 1)) (.cons (.set (.nm 4) (.call (PySem.Str.ofString "_law_dip") (.cons false (.nm 0) (.cons false (.pr (.blt .max) (.cons false (.cst (.int 1)) (.cons false (.pr (.blt .len) (.cons false (.nm 3) .nil)) .nil))) .nil)))) (.cons (.set (.nm 5) (.pr .item (.cons false (.pr .lst (.cons false (.cst .non) (.cons false (.cst (.bl true)) (.cons false (.cst (.bl false)) (.cons false (.cst (.str (PySem.Str.ofString "1"))) (.cons false (.pr .tup (.cons false (.cst (.int 1)) .nil)) (.cons false (.pr .lst .nil) (.cons false (.cst (.dct (.k []) [])) (.cons false (.pr .neg (.cons false (.cst (.int 1)) .nil)) (.cons false (.pr (.bin .Add) (.cons false (.nm 2) (.cons false (.cst (.int 1)) .nil))) (.cons false (.nm 2) (.cons false (.cst (.int 0)) (.cons false (.pr (.bin .Sub) (.cons false (.nm 2) (.cons false (.cst (.int 1)) .nil))) .nil))))))))))))) (.cons false (.call (PySem.Str.ofString "_law_dip") (.cons false (.nm 0) (.cons false (.cst (.int 12)) .nil))) .nil)))) (.cons (.set (.nm 6) (.comp (.nm 7) (.rng (.cst (.int 4))) [7] (.cst (.bl true)) (.pr .tup (.cons false (.nm 2) (.cons false (.pr (.bin .Add) (.cons false (.pr (.bin .Add) (.cons false (.pr (.slc false true) (.cons false (.nm 3) (.cons false (.nm 4) .nil))) (.cons false (.pr .tup (.cons false (.nm 5) .nil)) .nil))) (.cons false (.pr (.slc true false) (.cons false (.nm 3) (.cons false (.pr (.bin .Add) (.cons false (.nm 4) (.cons false (.cst (.int 1)) .nil))) .nil))) .nil))) .nil))))) (.cons (.set (.nm 8) (.pr (.bin .Add) (.cons false (.nm 2) (.cons false (.pr .item (.cons false (.pr .lst (.cons false (.call (PySem.Str.ofString "_law_dip") (.cons false (.nm 0) (.cons false (.cst (.int 4)) .nil))) (.cons false (.call (PySem.Str.ofString "_law_dip") (.cons false (.nm 0) (.cons false (.cst (.int 80)) .nil))) .nil))) (.cons false (.call (PySem.Str.ofString "_law_dip") (.cons false (.nm 0) (.cons false (.cst (.int 2)) .nil))) .nil))) .nil)))) (.cons (.set (.nm 6) (.pr (.bin .Add) (.cons false (.nm 6) (.cons false (.pr .lst (.cons false (.pr .tup (.cons false (.nm 5) (.cons false (.nm 3) .nil))) (.cons false (.pr .tup (.cons false (.nm 8) (.cons false (.nm 3) .nil))) (.cons false (.pr .tup (.cons false (.nm 2) (.cons false (.pr (.blt .list) (.cons false (.nm 3) .nil)) .nil))) .nil)))) .nil)))) (.cons (.set (.nm 6) (.pr (.bin .Add) (.cons false (.nm 6) (.cons false (.pr .lst (.cons false (.pr .tup (.cons false (.nm 2) (.cons false (.pr (.bin .Add) (.cons false (.nm 3) (.cons false (.pr .tup (.cons false (.cst (.int 0)) .nil)) .nil))) .nil))) (.cons false (.pr .tup (.cons false (.nm 2) (.cons false (.pr (.slc false true) (.cons false (.nm 3) (.cons false (.pr .neg (.cons false (.cst (.int 1)) .nil)) .nil))) .nil))) (.cons false (.pr .lst (.cons false (.nm 2) (.cons false (.nm 3) .nil))) (.cons false (.pr .tup (.cons false (.nm 2) .nil)) (.cons false (.cst .non) (.cons false (.cst (.int 0)) .nil))))))) .nil)))) (.cons (.set (.nm 6) (.pr (.bin .Add) (.cons false (.nm 6) (.cons false (.pr .lst (.cons false (.cst (.str (PySem.Str.ofString "at 0"))) (.cons false (.cst (.dct (.k []) [])) (.cons false (.pr .tup (.cons false (.nm 2) (.cons false (.nm 3) (.cons false (.cst (.int 0)) .nil)))) (.cons false (.pr .tup (.cons false (.nm 3) (.cons false (.nm 2) .nil))) (.cons false (.pr .tup (.cons false (.nm 2) (.cons false (.pr .rev (.cons false (.nm 3) .nil)) .nil))) (.cons false (.nm 3) .nil))))))) .nil)))) (.cons (.ret (.pr .item (.cons false (.nm 6) (.cons false (.call (PySem.Str.ofString "_law_dip") (.cons false (.nm 0) (.cons false (.pr (.blt .len) (.cons false (.nm 6) .nil)) .nil))) .nil)))) .nil))))))))) := by rfl
theorem lv__law_bent_part (k : Nat) (args : List PV) (h : args.length = 2) (m : Mu) : Lv T (k + 1) (PySem.Str.ofString "_law_bent_part") args m = exitS false m.length (exs (Lv T k) b__law_bent_part (startR 9 args) m) := by
  show runD (Lv T k) D__law_bent_part args m = _
  exact if_pos h
theorem bl__law_titles : b__law_titles = (.cons (.set (.tup [2, 3]) (.pr .tup (.cons false (.cst (.str (PySem.Str.ofString "abcdefghijklmnopqrstuvwxyz"))) (.cons false (.thw (.pr .lst .nil)) .nil)))) (.cons (.par [4, 5] (.cons false (.call (PySem.Str.ofString "_law_dip") (.cons false (.nm 0) (.cons false (.pr (.bin .Sub) (.cons false (.cst (.int 27)) (.cons false (.nm 1) .nil))) .nil))) (.cons false (.cst (.str (PySem.Str.ofString ""))) .nil))) (.cons (.ite (.pr (.cmp .Eq) (.cons false (.call (PySem.Str.ofString "_law_dip") (.cons false (.nm 0) (.cons false (.cst (.int 2)) .nil))) (.cons false (.cst (.int 0)) .nil))) (.cons (.set (.nm 5) (.pr (.mth .join) (.cons false (.cst (.str (PySem.Str.ofString ""))) (.cons false (.comp (.nm 6) (.rng (.pr (.bin .Add) (.cons false (.cst (.int 1)) (.cons false (.call (PySem.Str.ofString "_law_dip") (.cons false (.nm 0) (.cons false (.cst (.int 6)) .nil))) .nil)))) [6] (.cst (.bl true)) (.pr .item (.cons false (.nm 2) (.cons false (.call (PySem.Str.ofString "_law_dip") (.cons false (.nm 0) (.cons false (.cst (.int 26)) .nil))) .nil)))) .nil)))) .nil) .nil) (.cons (.set (.nm 7) (.pr (.mth .join) (.cons false (.cst (.str (PySem.Str.ofString ""))) (.cons false (.comp (.nm 6) (.rng (.call (PySem.Str.ofString "_law_dip") (.cons false (.nm 0) (.cons false (.pr (.bin .Sub) (.cons false (.cst (.int 8)) (.cons false (.pr (.blt .len) (.cons false (.nm 5) .nil)) .nil))) .nil)))) [6] (.cst (.bl true)) (.pr .item (.cons false (.nm 2) (.cons false (.call (PySem.Str.ofString "_law_dip") (.cons false (.nm 0) (.cons false (.cst (.int 26)) .nil))) .nil)))) .nil)))) (.cons (.set (.nm 8) (.pr (.cmp .Eq) (.cons false (.call (PySem.Str.ofString "_law_dip") (.cons false (.nm 0) (.cons false (.cst (.int 2)) .nil))) (.cons false (.cst (.int 0)) .nil)))) (.cons (.for_ (.nm 9) (.rng (.nm 1)) (.cons (.par [11, 12] (.cons false (.pr .item (.cons false (.pr .lst (.cons false (.cst (.int 0)) (.cons false (.cst (.int 0)) (.cons false (.cst (.int 1)) (.cons false (.call (PySem.Str.ofString "_law_dip") (.cons false (.nm 0) (.cons false (.pr (.bin .Sub) (.cons false (.cst (.int 8)) (.cons false (.pr (.blt .len) (.cons false (.nm 5) .nil)) .nil))) .nil))) .nil))))) (.cons false (.call (PySem.Str.ofString "_law_dip") (.cons false (.nm 0) (.cons false (.cst (.int 4)) .nil))) .nil))) (.cons false (.nm 7) .nil))) (.cons (.ite (.pr .not_ (.cons false (.nm 8) .nil)) (.cons (.set (.nm 12) (.pr (.mth .join) (.cons false (.cst (.str (PySem.Str.ofString ""))) (.cons false (.comp (.nm 6) (.rng (.nm 11)) [6] (.cst (.bl true)) (.pr .item (.cons false (.nm 2) (.cons false (.call (PySem.Str.ofString "_law_dip") (.cons false (.nm 0) (.cons false (.cst (.int 26)) .nil))) .nil)))) .nil)))) .nil) .nil) (.cons (.set (.nm 10) (.pr (.bin .Add) (.cons false (.pr (.bin .Add) (.cons false (.nm 5) (.cons false (.pr .item (.cons false (.nm 2) (.cons false (.pr (.bin .Add) (.cons false (.nm 4) (.cons false (.nm 9) .nil))) .nil))) .nil))) (.cons false (.nm 12) .nil)))) (.cons (.ite (.and_ (.pr (.cmp .NotEq) (.cons false (.nm 3) (.cons false (.pr .lst .nil) .nil))) (.and_ (.pr (.cmp .Lt) (.cons false (.pr (.blt .len) (.cons false (.pr .item (.cons false (.nm 3) (.cons false (.pr .neg (.cons false (.cst (.int 1)) .nil)) .nil))) .nil)) (.cons false (.cst (.int 8)) .nil))) (.pr (.cmp .Eq) (.cons false (.call (PySem.Str.ofString "_law_dip") (.cons false (.nm 0) (.cons false (.cst (.int 8)) .nil))) (.cons false (.cst (.int 0)) .nil))))) (.cons (.set (.nm 10) (.pr (.bin .Add) (.cons false (.pr .item (.cons false (.nm 3) (.cons false (.pr .neg (.cons false (.cst (.int 1)) .nil)) .nil))) (.cons false (.pr .item (.cons false (.nm 2) (.cons false (.call (PySem.Str.ofString "_law_dip") (.cons false (.nm 0) (.cons false (.cst (.int 26)) .nil))) .nil))) .nil)))) .nil) .nil) (.cons (.app (.nm 3) (.ite (.pr (.cmp .Eq) (.cons false (.nm 10) (.cons false (.cst (.str (PySem.Str.ofString "go"))) .nil))) (.cst (.str (PySem.Str.ofString "gone"))) (.nm 10))) .nil)))))) (.cons (.ret (.pr (.blt .tuple) (.cons false (.nm 3) .nil))) .nil))))))) := by rfl
theorem lv__law_titles (k : Nat) (args : List PV) (h : args.length = 2) (m : Mu) : Lv T (k + 1) (PySem.Str.ofString "_law_titles") args m = exitS false m.length (exs (Lv T k) b__law_titles (startR 13 args) m) := by
  show runD (Lv T k) D__law_titles args m = _
  exact if_pos h
theorem bl__law_few_limits : b__law_few_limits = (.cons (.set (.tup [4, 5]) (.pr .tup (.cons false (.dnew true) (.cons false (.pr (.bin .Add) (.cons false (.pr (.blt .list) (.cons false (.nm 1) .nil)) (.cons false (.pr .lst (.cons false (.cst (.str (PySem.Str.ofString "go"))) .nil)) .nil))) .nil)))) (.cons (.for_ (.nm 6) (.rng (.call (PySem.Str.ofString "_law_dip") (.cons false (.nm 0) (.cons false (.pr (.bin .Add) (.cons false (.nm 2) (.cons false (.cst (.int 1)) .nil))) .nil)))) (.cons (.par [7, 8] (.cons false (.pr .item (.cons false (.nm 5) (.cons false (.call (PySem.Str.ofString "_law_dip") (.cons false (.nm 0) (.cons false (.pr (.blt .len) (.cons false (.nm 5) .nil)) .nil))) .nil))) (.cons false (.pr .item (.cons false (.nm 5) (.cons false (.call (PySem.Str.ofString "_law_dip") (.cons false (.nm 0) (.cons false (.pr (.blt .len) (.cons false (.nm 5) .nil)) .nil))) .nil))) .nil))) (.cons (.ite (.pr (.cmp .NotEq) (.cons false (.nm 7) (.cons false (.nm 8) .nil))) (.cons (.set (.nm 9) (.pr .lst (.cons false (.cst (.int 0)) (.cons false (.call (PySem.Str.ofString "_law_dip") (.cons false (.nm 0) (.cons false (.pr (.bin .Add) (.cons false (.nm 3) (.cons false (.cst (.int 1)) .nil))) .nil))) (.cons false (.call (PySem.Str.ofString "_law_dip") (.cons false (.nm 0) (.cons false (.pr (.bin .Add) (.cons false (.nm 3) (.cons false (.cst (.int 1)) .nil))) .nil))) (.cons false (.pr (.bin .Sub) (.cons false (.cst (.int 0)) (.cons false (.call (PySem.Str.ofString "_law_dip") (.cons false (.nm 0) (.cons false (.nm 3) .nil))) .nil))) .nil)))))) (.cons (.set (.nm 10) (.pr .item (.cons false (.nm 9) (.cons false (.call (PySem.Str.ofString "_law_dip") (.cons false (.nm 0) (.cons false (.cst (.int 4)) .nil))) .nil)))) (.cons (.ite (.pr (.cmp .Eq) (.cons false (.call (PySem.Str.ofString "_law_dip") (.cons false (.nm 0) (.cons false (.cst (.int 12)) .nil))) (.cons false (.cst (.int 0)) .nil))) (.cons (.set (.nm 10) (.pr (.bin .Mult) (.cons false (.pr (.bin .Add) (.cons false (.cst (.int 7)) (.cons false (.call (PySem.Str.ofString "_law_dip") (.cons false (.nm 0) (.cons false (.cst (.int 94)) .nil))) .nil))) (.cons false (.pr .item (.cons false (.pr .lst (.cons false (.cst (.int 1)) (.cons false (.cst (.int 1)) (.cons false (.pr .neg (.cons false (.cst (.int 1)) .nil)) .nil)))) (.cons false (.call (PySem.Str.ofString "_law_dip") (.cons false (.nm 0) (.cons false (.cst (.int 3)) .nil))) .nil))) .nil)))) .nil) .nil) (.cons (.sti (.nm 10) (.nm 4) (.pr .ktup (.cons false (.nm 7) (.cons false (.nm 8) .nil)))) .nil)))) .nil) .nil))) (.cons (.ret (.pr (.blt .tuple) (.cons false (.comp (.nm 11) (.seq (.pr (.blt .sorted) (.cons false (.pr (.blt .list) (.cons false (.nm 4) .nil)) .nil))) [11] (.cst (.bl true)) (.pr .tup (.cons false (.pr .item (.cons false (.nm 11) (.cons false (.cst (.int 0)) .nil))) (.cons false (.pr .item (.cons false (.nm 11) (.cons false (.cst (.int 1)) .nil))) (.cons false (.pr .item (.cons false (.nm 4) (.cons false (.nm 11) .nil))) .nil))))) .nil))) .nil))) := by rfl
theorem lv__law_few_limits (k : Nat) (args : List PV) (h : args.length = 4) (m : Mu) : Lv T (k + 1) (PySem.Str.ofString "_law_few_limits") args m = exitS false m.length (exs (Lv T k) b__law_few_limits (startR 12 args) m) := by
  show runD (Lv T k) D__law_few_limits args m = _
  exact if_pos h
theorem bl__law_long_jobs : b__law_long_jobs = (.cons (.set (.nm 3) (.thw (.pr .lst .nil))) (.cons (.for_ (.tup [4, 5, 6, 7]) (.seq (.call (PySem.Str.ofString "_law_jobs") (.cons false (.nm 0) (.cons false (.nm 1) (.cons false (.nm 2) (.cons false (.cst (.int 2)) .nil)))))) (.cons (.set (.nm 6) (.pr (.bin .Add) (.cons false (.cst (.int 1)) (.cons false (.call (PySem.Str.ofString "_law_dip") (.cons false (.nm 0) (.cons false (.cst (.int 40)) .nil))) .nil)))) (.cons (.app (.nm 3) (.pr .tup (.cons false (.nm 4) (.cons false (.nm 5) (.cons false (.nm 6) (.cons false (.pr (.bin .Add) (.cons false (.nm 6) (.cons false (.call (PySem.Str.ofString "_law_dip") (.cons false (.nm 0) (.cons false (.pr (.bin .Sub) (.cons false (.cst (.int 41)) (.cons false (.nm 6) .nil))) .nil))) .nil))) .nil)))))) .nil))) (.cons (.ret (.pr (.blt .tuple) (.cons false (.pr (.blt .sorted) (.cons false (.nm 3) .nil)) .nil))) .nil))) := by rfl
theorem lv__law_long_jobs (k : Nat) (args : List PV) (h : args.length = 3) (m : Mu) : Lv T (k + 1) (PySem.Str.ofString "_law_long_jobs") args m = exitS false m.length (exs (Lv T k) b__law_long_jobs (startR 8 args) m) := by
  show runD (Lv T k) D__law_long_jobs args m = _
  exact if_pos h
theorem bl__law_great : b__law_great = (.cons (.par [3, 4] (.cons false (.call (PySem.Str.ofString "_law_titles") (.cons false (.nm 0) (.cons false (.pr (.bin .Add) (.cons false (.cst (.int 1)) (.cons false (.call (PySem.Str.ofString "_law_dip") (.cons false (.nm 0) (.cons false (.nm 1) .nil))) .nil))) .nil))) (.cons false (.pr .item (.cons false (.pr .lst (.cons false (.cst (.int 3)) (.cons false (.cst (.int 9)) (.cons false (.cst (.int 40)) .nil)))) (.cons false (.call (PySem.Str.ofString "_law_dip") (.cons false (.nm 0) (.cons false (.cst (.int 3)) .nil))) .nil))) .nil))) (.cons (.set (.nm 5) (.ite (.pr (.cmp .Gt) (.cons false (.nm 4) (.cons false (.cst (.int 9)) .nil))) (.cst (.int 40)) (.nm 2))) (.cons (.set (.nm 6) (.call (PySem.Str.ofString "_law_long_jobs") (.cons false (.nm 0) (.cons false (.nm 3) (.cons false (.pr (.bin .Add) (.cons false (.cst (.int 1)) (.cons false (.call (PySem.Str.ofString "_law_dip") (.cons false (.nm 0) (.cons false (.cst (.int 3)) .nil))) .nil))) .nil))))) (.cons (.ite (.pr (.cmp .Lt) (.cons false (.nm 4) (.cons false (.cst (.int 40)) .nil))) (.cons (.set (.nm 6) (.call (PySem.Str.ofString "_law_jobs") (.cons false (.nm 0) (.cons false (.nm 3) (.cons false (.pr (.bin .Add) (.cons false (.cst (.int 1)) (.cons false (.call (PySem.Str.ofString "_law_dip") (.cons false (.nm 0) (.cons false (.cst (.int 3)) .nil))) .nil))) (.cons false (.nm 4) .nil)))))) .nil) .nil) (.cons (.set (.nm 7) (.call (PySem.Str.ofString "_law_few_limits") (.cons false (.nm 0) (.cons false (.nm 3) (.cons false (.cst (.int 10)) (.cons false (.pr .item (.cons false (.pr .lst (.cons false (.cst (.int 6)) (.cons false (.nm 5) .nil))) (.cons false (.call (PySem.Str.ofString "_law_dip") (.cons false (.nm 0) (.cons false (.cst (.int 2)) .nil))) .nil))) .nil)))))) (.cons (.ret (.pr .tup (.cons false (.pr (.bin .Sub) (.cons false (.nm 5) (.cons false (.call (PySem.Str.ofString "_law_dip") (.cons false (.nm 0) (.cons false (.pr (.bin .Sub) (.cons false (.nm 5) (.cons false (.cst (.int 5)) .nil))) .nil))) .nil))) (.cons false (.nm 3) (.cons false (.nm 7) (.cons false (.nm 6) .nil)))))) .nil)))))) := by rfl
theorem lv__law_great (k : Nat) (args : List PV) (h : args.length = 3) (m : Mu) : Lv T (k + 1) (PySem.Str.ofString "_law_great") args m = exitS false m.length (exs (Lv T k) b__law_great (startR 8 args) m) := by
  show runD (Lv T k) D__law_great args m = _
  exact if_pos h
theorem bl_law : b_law = (.cons (.for_ (.nm 1) (.rng (.pr (.blt .max) (.cons false (.cst (.int 1)) (.cons false (.pr (.blt .min) (.cons false (.pr (.blt .len) (.cons false (.nm 0) .nil)) (.cons false (.cst (.int 12)) .nil))) .nil)))) (.cons (.set (.nm 2) (.call (PySem.Str.ofString "_law_sack") (.cons false (.nm 0) (.cons false (.nm 1) .nil)))) (.cons (.set (.nm 3) (.ite (.pr (.cmp .Eq) (.cons false (.call (PySem.Str.ofString "_law_dip") (.cons false (.nm 2) (.cons false (.cst (.int 2)) .nil))) (.cons false (.cst (.int 0)) .nil))) (.call (PySem.Str.ofString "_law_great") (.cons false (.nm 2) (.cons false (.cst (.int 7)) (.cons false (.cst (.int 20)) .nil)))) (.call (PySem.Str.ofString "_law_little") (.cons false (.nm 2) (.cons false (.cst (.int 4)) (.cons false (.cst (.int 5)) .nil)))))) (.cons (.for_ (.nm 4) (.rng (.cst (.int 6))) (.cons (.set (.nm 5) (.call (PySem.Str.ofString "_law_walked") (.cons false (.nm 2) (.cons false (.nm 3) (.cons false (.pr .item (.cons false (.pr .lst (.cons false (.cst (.int 24)) (.cons false (.cst (.int 60)) .nil))) (.cons false (.call (PySem.Str.ofString "_law_dip") (.cons false (.nm 2) (.cons false (.cst (.int 2)) .nil))) .nil))) .nil))))) (.cons (.ite (.pr (.cmp .Gt) (.cons false (.nm 4) (.cons false (.cst (.int 0)) .nil))) (.cons (.set (.nm 5) (.call (PySem.Str.ofString "_law_bent_part") (.cons false (.nm 2) (.cons false (.nm 5) .nil)))) .nil) .nil) (.cons (.set (.nm 6) (.call (PySem.Str.ofString "_law_is_past") (.cons false (.nm 3) (.cons false (.nm 5) .nil)))) (.cons (.ite (.pr .not_ (.cons false (.call (PySem.Str.ofString "_law_twin") (.cons false (.pr .lst (.cons false (.call (PySem.Str.ofString "is_history") (.cons false (.nm 3) (.cons false (.nm 5) .nil))) (.cons false (.callk (PySem.Str.ofString "is_history") .nil (.cons false (.nm 5) (.cons false (.nm 3) .nil)) 0 2 [1, 0]) .nil))) (.cons false (.pr .lst (.cons false (.nm 6) (.cons false (.nm 6) .nil))) .nil))) .nil)) (.cons (.ret (.cst (.bl false))) .nil) .nil) .nil))))) .nil)))) (.cons (.set (.nm 7) (.pr .tup (.cons false (.cst (.int 3)) (.cons false (.pr .tup (.cons false (.cst (.str (PySem.Str.ofString "a"))) .nil)) (.cons false (.pr .tup .nil) (.cons false (.pr .tup .nil) .nil)))))) (.cons (.ite (.pr (.cmp .IsNot) (.cons false (.call (PySem.Str.ofString "is_history") (.cons false (.nm 7) (.cons false (.mk (PySem.Str.ofString "Live") (.cons false (.nm 7) .nil)) .nil))) (.cons false (.cst (.bl false)) .nil))) (.cons (.ret (.cst (.bl false))) .nil) .nil) (.cons (.ret (.pr (.cmp .Is) (.cons false (.call (PySem.Str.ofString "is_history") (.cons false (.pr .tup (.cons false (.cst (.int 0)) (.cons false (.pr .tup .nil) (.cons false (.pr .tup .nil) (.cons false (.pr .tup .nil) .nil))))) (.cons false (.pr .tup (.cons false (.cst (.int 7)) (.cons false (.pr .tup .nil) .nil))) .nil))) (.cons false (.cst (.bl true)) .nil)))) .nil)))) := by rfl
theorem lv_law (k : Nat) (args : List PV) (h : args.length = 1) (m : Mu) : Lv T (k + 1) (PySem.Str.ofString "law") args m = exitS false m.length (exs (Lv T k) b_law (startR 8 args) m) := by
  show runD (Lv T k) D_law args m = _
  exact if_pos h
theorem bl_mk_Live : b_mk_Live = (.cons (.ite (.pr .not_ (.cons false (.call (PySem.Str.ofString "Live.is_valid") (.cons false (.nm 1) .nil)) .nil)) (.cons .bad .nil) .nil) (.cons (.att [(PySem.Str.ofString "Live")] (.nm 0) (PySem.Str.ofString "held_plan") (.nm 1)) (.cons (.att [(PySem.Str.ofString "Live")] (.nm 0) (PySem.Str.ofString "state") (.pr .tup (.cons false (.cst (.int 0)) (.cons false (.pr (.bin .Mult) (.cons false (.pr .tup (.cons false (.cst .non) .nil)) (.cons false (.pr (.blt .len) (.cons false (.pr .item (.cons false (.nm 1) (.cons false (.cst (.int 1)) .nil))) .nil)) .nil))) .nil)))) (.cons (.att [(PySem.Str.ofString "Live")] (.nm 0) (PySem.Str.ofString "calls") (.pr .tup .nil)) .nil)))) := by rfl
theorem lv_mk_Live (k : Nat) (args : List PV) (h : args.length = 2) (m : Mu) : Lv T (k + 1) (PySem.Str.ofString "Live.__init__") args m = exitS false m.length (exs (Lv T k) b_mk_Live (startR 2 args) m) := by
  show runD (Lv T k) D_mk_Live args m = _
  exact if_pos h
theorem bl_sm_Live_is_valid : b_sm_Live_is_valid = (.cons (.ret (.call (PySem.Str.ofString "is_plan") (.cons false (.nm 0) .nil))) .nil) := by rfl
theorem lv_sm_Live_is_valid (k : Nat) (args : List PV) (h : args.length = 1) (m : Mu) : Lv T (k + 1) (PySem.Str.ofString "Live.is_valid") args m = exitS false m.length (exs (Lv T k) b_sm_Live_is_valid (startR 1 args) m) := by
  show runD (Lv T k) D_sm_Live_is_valid args m = _
  exact if_pos h
end Sn.Lk08
namespace Sn.Lk08
open PySem PySem.Spec PyProof.Rows L2
theorem mid_get {α : Type} (pre : List α) (x : α) (r : List α) : (pre ++ x :: r)[pre.length]? = some x := by simp
theorem mid_set {α : Type} (pre : List α) (x y : α) (r : List α) : (pre ++ x :: r).set pre.length y = pre ++ y :: r := by simp
def stir1 (b c : Int) : Int := (b + 60013 * (c + 1)) ^ 2 % 10000000000000000000000000000000000043
def stir2 (b c : Int) : Int := (stir1 b c + 1300021 * (c + 1)) ^ 3 % 100000000000000000000000000000000000133
theorem p_dip0 (k : Nat) (b c below : Int) (pre r : Mu) (hb : 0 < below) (hl : below.natAbs.log2 < 9000)
    (h1 : Nat.log2 60013 + (c + 1).natAbs.log2 < 1000000) (h2 : Nat.log2 1300021 + (c + 1).natAbs.log2 < 1000000)
    (h3 : (Builtin.Int.intBits (b + 60013 * (c + 1)) : Int) * 2 ≤ 134217728) (h4 : (Builtin.Int.intBits (stir1 b c + 1300021 * (c + 1)) : Int) * 3 ≤ 134217728) (h5 : (Builtin.Int.intBits 10 : Int) * 37 ≤ 134217728) (h6 : (Builtin.Int.intBits 10 : Int) * 38 ≤ 134217728)
    (h7 : Nat.log2 32768 < 9000) (h8 : Nat.log2 10000000000000000000000000000000000043 < 9000) (h9 : Nat.log2 100000000000000000000000000000000000133 < 9000) :
    Lv T (k + 1) (PySem.Str.ofString "_law_dip") [.loc pre.length, .int below] (pre ++ .lst [.int 0, .int b, .int c] :: r) = .ok (.int (stir2 b c / 32768 % below)) (pre ++ .lst [.int 0, .int b, .int (c + 1)] :: r) := by
  rw [lv__law_dip _ _ rfl, bl__law_dip]
  unfold stir2
  unfold stir1 at h4 ⊢
  simp only [exs, ex, ev, evs, evT, startR, Res.bind, Res.go, SR.seq, exitS, prR, seesR, drf, prS, bltS, tyS, boolR, oRes, fin, cmpS, ltS, itemS, atI, ixN, hb, hl, binS, bindT, stiS, lim, keeps, mid_get, mid_set]
  simp [Res.bind, Res.go, SR.seq, boolR, oRes, prS, seesR, drf, binS, bltS, cmpS, ltS, itemS, atI, ixN, bindT, stiS, ev, evs, exs, ex, prR, fin, exitS, hb, hl, h1, h2, h3, h4, h5, h6, h7, h8, h9, mid_get, mid_set]
theorem p_dip1 (k : Nat) (a b c below : Int) (pre r : Mu) (hb : 0 < below) (hb2 : below < 2 ^ 20) (ha : 0 < a) :
    Lv T (k + 1) (PySem.Str.ofString "_law_dip") [.loc pre.length, .int below] (pre ++ .lst [.int a, .int b, .int c] :: r) = .ok (.int (a % below)) (pre ++ .lst [.int (a / below), .int b, .int c] :: r) := by
  rw [lv__law_dip _ _ rfl, bl__law_dip]
  have hl : below.natAbs.log2 < 9000 := by
    have h1 : below.natAbs < 2 ^ 20 := by omega
    have h0 : below.natAbs ≠ 0 := by omega
    have := (Nat.log2_lt h0).mpr h1
    omega
  simp [exs, ex, ev, evs, evT, startR, Res.bind, Res.go, SR.seq, exitS, prR, seesR, drf, prS, bltS, tyS, boolR, oRes, fin, cmpS, ltS, itemS, atI, ixN, ha, hb, hl, binS, bindT, stiS, lim, keeps, mid_get, mid_set]
theorem ib_le {x : Int} {n : Nat} (h : x.natAbs < 2 ^ n) : Builtin.Int.intBits x ≤ n := by
  unfold Builtin.Int.intBits
  split
  · omega
  · rename_i hx
    have h0 : x.natAbs ≠ 0 := by
      intro e
      exact hx (by simpa using e)
    have := (Nat.log2_lt h0).mpr h
    omega
theorem log_le {x n : Nat} (h : x < 2 ^ n) (hn : 0 < n) : Nat.log2 x < n := by
  by_cases h0 : x = 0
  · subst h0
    rw [show Nat.log2 0 = 0 from rfl]
    exact hn
  · exact (Nat.log2_lt h0).mpr h
/-- a draw: some number below its bound; the sack stays a sack -/
theorem p_dip (k : Nat) (a b c below : Int) (pre r : Mu) (ha : 0 ≤ a) (hb0 : 0 ≤ b) (hb1 : b < 2 ^ 200) (hc0 : 0 ≤ c) (hc1 : c < 2 ^ 40) (hw : 0 < below) (hw2 : below < 2 ^ 20) :
    ∃ d a' c', Lv T (k + 1) (PySem.Str.ofString "_law_dip") [.loc pre.length, .int below] (pre ++ .lst [.int a, .int b, .int c] :: r) = .ok (.int d) (pre ++ .lst [.int a', .int b, .int c'] :: r) ∧ 0 ≤ d ∧ d < below ∧ 0 ≤ a' ∧ c ≤ c' ∧ c' ≤ c + 1 := by
  by_cases h : 0 < a
  · exact ⟨_, _, _, p_dip1 k a b c below pre r hw hw2 h, Int.emod_nonneg _ (by omega), Int.emod_lt_of_pos _ hw, Int.ediv_nonneg ha (by omega), by omega, by omega⟩
  · have e : a = 0 := by omega
    subst e
    have hbl : below.natAbs.log2 < 9000 := by
      have h1 : below.natAbs.log2 < 20 := log_le (by omega) (by omega)
      omega
    have hcn : (c + 1).natAbs.log2 < 50 := log_le (by omega) (by omega)
    have hs0 : 0 ≤ stir1 b c := Int.emod_nonneg _ (by omega)
    have hs1 : stir1 b c < 10000000000000000000000000000000000043 := Int.emod_lt_of_pos _ (by omega)
    refine ⟨_, _, _, p_dip0 k b c below pre r hw hbl ?_ ?_ ?_ ?_ (by decide) (by decide) (by decide) (by decide) (by decide), Int.emod_nonneg _ (by omega), Int.emod_lt_of_pos _ hw, by omega, by omega, by omega⟩
    · have : Nat.log2 60013 < 17 := by decide
      omega
    · have : Nat.log2 1300021 < 22 := by decide
      omega
    · have := ib_le (x := b + 60013 * (c + 1)) (n := 201) (by omega)
      omega
    · have := ib_le (x := stir1 b c + 1300021 * (c + 1)) (n := 150) (by omega)
      omega
end Sn.Lk08
namespace Sn.Lk08
open PySem PySem.Spec PyProof.Rows L2
/-! ### what changed within is given up -/
def Cl (m : Mu) : Prop := ∀ o ∈ m, ∀ n, lbM n o = true
theorem Cl.all {m : Mu} (h : Cl m) (n : Nat) : m.all (lbM n) = true := List.all_eq_true.mpr fun o ho => h o ho n
theorem Cl.app {m : Mu} (h : Cl m) {o : MO} (ho : ∀ n, lbM n o = true) : Cl (m ++ [o]) := fun q hq n => by
  rcases List.mem_append.mp hq with h1 | h1
  · exact h q h1 n
  · rw [List.mem_singleton.mp h1]; exact ho n
theorem lbs_of {n : Nat} : ∀ {xs : List PV}, (∀ x ∈ xs, lb n x = true) → lbs n xs = true
  | [], _ => rfl
  | x :: r, h => by simp [lbs, h x (by simp), lbs_of (xs := r) fun y hy => h y (by simp [hy])]
theorem lbs_map {α : Type} {f : α → PV} {n : Nat} (h : ∀ a, lb n (f a) = true) (l : List α) : lbs n (l.map f) = true := lbs_of fun x hx => by
  obtain ⟨a, _, rfl⟩ := List.mem_map.mp hx
  exact h a
theorem finK_new {m : Mu} {o : MO} (hm : Cl m) (ho : ∀ n, lbM n o = true) : finK m.length (.loc m.length) (m ++ [o]) = .ok (.loc m.length) (m ++ [o]) := by
  simp [finK, ho m.length]
  intro x hx
  exact hm x hx _
theorem fin_new {m : Mu} {xs : List PV} (hm : Cl m) (ho : lbs m.length xs = true) : fin m.length (.loc m.length) (m ++ [.lst xs]) = .ok (.lst xs) m := by
  simp [fin, givS, lb, ho]
  rw [if_neg (by omega), if_pos fun x hx => hm x hx _]
theorem fin_tup {m : Mu} {g : Bool} {xs : List PV} {o : MO} (hm : Cl m) (ho : lbs m.length xs = true) : fin m.length (.tup g xs) (m ++ [o]) = .ok (.tup g xs) m := by
  simp [fin, givS, lb, ho]
  rw [if_neg (by omega), if_pos fun x hx => hm x hx _]
theorem p_sack1 (k : Nat) (m : Mu) (hm : Cl m) (ns : List Int) (i : Nat) (h : i < ns.length) (hz : ns.length ≤ 63) (h5 : (Builtin.Int.intBits 10 : Int) * 18 ≤ 134217728) (h6 : (Builtin.Int.intBits 10 : Int) * 39 ≤ 134217728) (h7 : Nat.log2 1000000000000000000000000000000000000003 < 9000)
    (h8 : (ns[i] % 1000000000000000000000000000000000000003).natAbs.log2 + Nat.log2 79 < 1000000) (h9 : Nat.log2 73 + Nat.log2 i < 1000000) :
    Lv T (k + 1) (PySem.Str.ofString "_law_sack") [.scr (ns.map .int), .int i] m = .ok (.loc m.length) (m ++ [.lst [.int (if 1000000000000000000 < (if ns[i] < 0 then -ns[i] else ns[i]) then (if ns[i] < 0 then -ns[i] else ns[i]) - 1000000000000000000 else 0), .int (ns[i] % 1000000000000000000000000000000000000003 * 79 + 73 * i + 61), .int 0]]) := by
  have hi : ixN ns.length (i : Int) = some i := by
    unfold ixN
    rw [if_pos (by omega), if_pos (by omega)]
    simp
  have e : ns[i]? = some ns[i] := List.getElem?_eq_getElem h
  have hs : ∀ z : Int, 0 < z - 1000000000000000000 ↔ 1000000000000000000 < z := fun z => by omega
  rw [lv__law_sack _ _ rfl, bl__law_sack]
  simp [exs, ex, ev, evs, evT, startR, Res.bind, Res.go, SR.seq, exitS, prR, seesR, drf, prS, bltS, lenS, maxS, boolR, oRes, cmpS, ltS, itemS, atI, binS, bindT, lim, h, hi, e, h5, h6, h7, h8, h9, sizeLine_eq, hs, finK_new hm (o := .lst [.int (if 1000000000000000000 < (if ns[i] < 0 then -ns[i] else ns[i]) then (if ns[i] < 0 then -ns[i] else ns[i]) - 1000000000000000000 else 0), .int (ns[i] % 1000000000000000000000000000000000000003 * 79 + 73 * i + 61), .int 0]) (fun n => by simp [lbM, lbs, lb])]
theorem p_sack (k : Nat) (m : Mu) (hm : Cl m) (ns : List Int) (i : Nat) (h : i < ns.length) (hz : ns.length ≤ 63) :
    ∃ a b, Lv T (k + 1) (PySem.Str.ofString "_law_sack") [.scr (ns.map .int), .int i] m = .ok (.loc m.length) (m ++ [.lst [.int a, .int b, .int 0]]) ∧ 0 ≤ a ∧ 0 ≤ b ∧ b < 2 ^ 200 := by
  have m0 : 0 ≤ ns[i] % 1000000000000000000000000000000000000003 := Int.emod_nonneg _ (by omega)
  have m1 : ns[i] % 1000000000000000000000000000000000000003 < 1000000000000000000000000000000000000003 := Int.emod_lt_of_pos _ (by omega)
  have l1 : (ns[i] % 1000000000000000000000000000000000000003).natAbs.log2 < 150 := log_le (by omega) (by omega)
  have l2 : i.log2 < 10 := log_le (by omega) (by omega)
  refine ⟨_, _, p_sack1 k m hm ns i h hz (by decide) (by decide) (by decide) ?_ ?_, ?_, by omega, by omega⟩
  · have : Nat.log2 79 < 10 := by decide
    omega
  · have : Nat.log2 73 < 10 := by decide
    omega
  · split <;> omega
/-- no script: the sack of nought -/
theorem p_sack0 (k : Nat) (m : Mu) (hm : Cl m) : Lv T (k + 1) (PySem.Str.ofString "_law_sack") [.scr [], .int 0] m = .ok (.loc m.length) (m ++ [.lst [.int 0, .int 61, .int 0]]) := by
  have h5 : (Builtin.Int.intBits 10 : Int) * 18 ≤ 134217728 := by decide
  have h6 : (Builtin.Int.intBits 10 : Int) * 39 ≤ 134217728 := by decide
  have h7 : Nat.log2 1000000000000000000000000000000000000003 < 9000 := by decide
  have h8 : Nat.log2 0 + Nat.log2 79 < 1000000 := by decide
  have h9 : Nat.log2 73 + Nat.log2 0 < 1000000 := by decide
  have h10 : Nat.log2 79 < 1000000 := by decide
  have h11 : Nat.log2 73 < 1000000 := by decide
  rw [lv__law_sack _ _ rfl, bl__law_sack]
  simp [exs, ex, ev, evs, evT, startR, Res.bind, Res.go, SR.seq, exitS, prR, seesR, drf, prS, bltS, lenS, maxS, boolR, oRes, cmpS, ltS, itemS, atI, binS, bindT, lim, h5, h6, h7, h8, h9, h10, h11, sizeLine_eq, finK_new hm (o := .lst [.int 0, .int 61, .int 0]) (fun n => by simp [lbM, lbs, lb])]
end Sn.Lk08
namespace Sn.Lk08
open PySem PySem.Spec PyProof.Rows L2
theorem kit1 : kitB "int" "int" = some true := by decide +kernel
theorem kit2 : kitB "int" "bool" = some false := by decide +kernel
theorem kit3 : kitB "str" "str" = some true := by decide +kernel
theorem kit4 : kitB "tuple" "tuple" = some true := by decide +kernel
theorem p_is_integer (k : Nat) (i : Int) (m : Mu) : Lv T (k + 1) (PySem.Str.ofString "is_integer") [.int i] m = .ok (.bl true) m := by
  rw [lv_is_integer _ _ rfl, bl_is_integer]
  simp [exs, ex, ev, evs, startR, Res.bind, Res.go, SR.seq, exitS, prR, seesR, drf, prS, bltS, tyS, boolR, oRes, kit1, kit2, fin]
theorem p_is_at_least (k : Nat) (i j : Int) (m : Mu) : Lv T (k + 2) (PySem.Str.ofString "is_at_least") [.int i, .int j] m = .ok (.bl (decide (j ≤ i))) m := by
  rw [lv_is_at_least _ _ rfl, bl_is_at_least]
  simp [exs, ex, ev, evs, startR, Res.bind, Res.go, SR.seq, exitS, prR, seesR, drf, prS, bltS, tyS, boolR, oRes, fin, p_is_integer, cmpS, ltS]
  by_cases h : j ≤ i
  · simp [h, show ¬ i < j by omega]
  · simp [h, show i < j by omega]
theorem toDs_strs : ∀ es : List Str, toDs (es.map PV.str) = some (es.map PyData.str)
  | [] => rfl
  | x :: r => by simp [toDs, toD, toDs_strs r]
theorem deps_strs : ∀ es : List Str, deps (es.map PV.str) = 0
  | [] => rfl
  | x :: r => by simp [deps, dep, deps_strs r]
end Sn.Lk08
namespace Sn.Lk08
open PySem PySem.Spec PyProof.Rows L2
theorem eqv_str (x y : Str) : PyData.eqv (.str x) (.str y) = decide (x = y) := by
  show (x == y) = _
  by_cases h : x = y
  · subst h; simp
  · simp [h]
theorem p_is_point (k : Nat) (es : List Str) (x : Str) (m : Mu) : Lv T (k + 1) (PySem.Str.ofString "is_point") [.tup true (es.map .str), .str x] m = .ok (.bl (decide (x = PySem.Str.ofString "go" ∨ x ∈ es))) m := by
  have hany : (es.map PyData.str).any (fun y => PyData.eqv y (.str x)) = decide (x ∈ es) := by
    rw [List.any_map, show ((fun y => PyData.eqv y (.str x)) ∘ PyData.str) = fun y => decide (y = x) from funext fun y => eqv_str y x]
    by_cases h : x ∈ es
    · simp only [h, decide_true, List.any_eq_true]
      exact ⟨x, h, by simp⟩
    · simp only [h, decide_false]
      rw [List.any_eq_false]
      intro y hy
      simp only [decide_eq_true_eq]
      rintro rfl
      exact h hy
  rw [lv_is_point _ _ rfl, bl_is_point]
  by_cases hg : x = PySem.Str.ofString "go"
  · simp [exs, ex, ev, evs, startR, Res.bind, Res.go, SR.seq, exitS, prR, seesR, drf, prS, bltS, tyS, boolR, oRes, fin, kit3, cmpS, eqS, inS, toD, dep, eqv_str, hg]
  · simp [exs, ex, ev, evs, startR, Res.bind, Res.go, SR.seq, exitS, prR, seesR, drf, prS, bltS, tyS, boolR, oRes, fin, kit3, cmpS, eqS, inS, toD, dep, eqv_str, hg, toDs_strs, deps_strs, hany]
end Sn.Lk08
namespace Sn.Lk08
open PySem PySem.Spec PyProof.Rows L2
theorem occ_letter : ∀ i : Fin 26, (Builtin.Str.occurrences (PySem.Str.ofString "abcdefghijklmnopqrstuvwxyz") ⟨#[97 + i.val]⟩ 0 (PySem.Str.ofString "abcdefghijklmnopqrstuvwxyz").length 1).isEmpty = false := by
  decide +kernel
theorem all_bls : ∀ n : Nat, allO blS (List.replicate n (.bl true)) = some (List.replicate n true)
  | 0 => rfl
  | n + 1 => by simp [List.replicate_succ, allO, blS, all_bls n]
/-- a name -/
structure Nm (x : Str) : Prop where
  ne : x ≠ PySem.Str.ofString ""
  go : x ≠ PySem.Str.ofString "go"
  len : x.length ≤ 8
  let_ : ∀ c ∈ x.cps.toList, 97 ≤ c ∧ c < 123
theorem p_is_name (k : Nat) (x : Str) (m : Mu) (h : Nm x) : Lv T (k + 1) (PySem.Str.ofString "is_name") [.str x] m = .ok (.bl true) m := by
  rw [lv_is_name _ _ rfl, bl_is_name]
  have hz : x.length ≤ 16777216 := Nat.le_trans h.len (by decide)
  have hlen : x.cps.toList.length ≤ 16777216 := hz
  have n1 : ¬ (PySem.Str.ofString "" = x) := fun e => h.ne e.symm
  have n2 : ¬ (PySem.Str.ofString "go" = x) := fun e => h.go e.symm
  have n3 : ¬ (8 : Int) < (x.length : Int) := by have := h.len; omega
  have hc : collect (stepC (Lv T k) (.nm 1) [1] (.cst (.bl true)) (.pr (.cmp .In) (.cons false (.nm 1) (.cons false (.cst (.str (PySem.Str.ofString "abcdefghijklmnopqrstuvwxyz"))) .nil))) [some (.str x), none]) (keeps [] m) (x.cps.toList.map fun c => .str ⟨#[c]⟩) m = .ok ((x.cps.toList.map fun c => PV.str ⟨#[c]⟩).map fun _ => .bl true) m := by
    refine collect_map (g := fun _ => .bl true) (keeps_nil m m) fun y hy => ?_
    obtain ⟨c, hcm, rfl⟩ := List.mem_map.mp hy
    obtain ⟨h1, h2⟩ := h.let_ c hcm
    have hocc := occ_letter ⟨c - 97, by omega⟩
    simp only [show 97 + (c - 97) = c by omega] at hocc
    simp [stepC, bindT, wipeR, ev, evs, noX, Res.bind, boolR, prR, seesR, drf, prS, cmpS, inS, oRes, hocc]
  have hrep : ((x.cps.toList.map fun c => PV.str ⟨#[c]⟩).map fun _ => PV.bl true) = List.replicate x.cps.toList.length (.bl true) := by
    rw [List.map_map]
    exact List.map_const'
  simp only [exs, ex, evT]
  simp [ev_nm, ev_cst, ev_pr, ev_or, evs_nil, evs_cons, ev_comp, evw, startR, Res.bind, Res.go, SR.seq, exitS, prR, seesR, drf, prS, bltS, tyS, boolR, oRes, oWd, walkS, fin, kit3, cmpS, ltS, inS, toD, toDs, dep, deps, eqv_str, lenS, lim, sizeLine_eq, n1, n2, n3, hz, exs, ex, evT]
  rw [if_pos (show x.cps.size ≤ 16777216 from hz), hc, hrep]
  simp [ev_nm, ev_cst, ev_pr, ev_or, evs_nil, evs_cons, Res.bind, Res.go, SR.seq, prR, seesR, drf, prS, bltS, lsS, all_bls, oRes, boolR]
end Sn.Lk08
namespace Sn.Lk08
open PySem PySem.Spec PyProof.Rows L2
/-! ### plain facts about data -/
theorem evs_star {Φ : FEnv} {e : Ex} {es : Exs} {ρ : Rho} {m : Mu} : evs Φ (.cons true e es) ρ m = (ev Φ e ρ m).bind fun x m => match itemsS (drf m x) with
    | some xs => (evs Φ es ρ m).bind fun ys m => .ok (xs ++ ys) m
    | none => .stuck := by
  simp only [evs, if_true] <;> rfl
theorem bnd_ok {α β : Type} {a : α} {m : Mu} {f : α → Mu → Res β} : (Res.ok a m).bind f = f a m := by
  have h : ∀ n : Mu, n = n → (Res.ok a m).bind f = f a m := fun _ _ => rfl
  exact h m rfl
theorem go_ok {α : Type} {a : α} {ρ : Rho} {m : Mu} {f : α → Mu → SR} : (Res.ok a m).go ρ f = f a m := by
  have h : ∀ n : Mu, n = n → (Res.ok a m).go ρ f = f a m := fun _ _ => rfl
  exact h m rfl
theorem seq_nx {ρ : Rho} {m : Mu} {f : Rho → Mu → SR} : (SR.nx ρ m).seq f = f ρ m := by
  have h : ∀ n : Mu, n = n → (SR.nx ρ m).seq f = f ρ m := fun _ _ => rfl
  exact h m rfl
theorem seq_rt {p : PV} {m : Mu} {f : Rho → Mu → SR} : (SR.rt p m).seq f = .rt p m := by
  have h : ∀ n : Mu, n = n → (SR.rt p m).seq f = .rt p m := fun _ _ => rfl
  exact h m rfl
theorem evw_seq {Φ : FEnv} {e : Ex} {ρ : Rho} {m : Mu} : evw Φ (.seq e) ρ m = (ev Φ e ρ m).bind fun p m => oWd m (walkS m p) := by simp only [evw]
theorem evw_zip {Φ : FEnv} {a b : Ex} {ρ : Rho} {m : Mu} : evw Φ (.zip a b) ρ m = (ev Φ a ρ m).bind fun p m => (ev Φ b ρ m).bind fun q m => match walkS m p, walkS m q with
    | some (xs, ws), some (ys, us) => if (isL p && isL q || isT p && isT q) = true then .ok (zipS xs ys, ws ++ us) m else .stuck
    | _, _ => .stuck := by
  simp only [evw] <;> rfl
def rngK (p : PV) (m : Mu) : Res Wd := match p with
  | .int j => oWd m ((rngS 0 j).map fun xs => (xs, []))
  | _ => .stuck
theorem evw_rngK {Φ : FEnv} {e : Ex} {ρ : Rho} {m : Mu} : evw Φ (.rng e) ρ m = (ev Φ e ρ m).bind rngK := by
  simp only [evw] <;> rfl
theorem rngS_nat {n : Nat} (h : n ≤ 100000) : rngS 0 (n : Int) = some ((List.range n).map fun k => .int (k : Nat)) := by
  unfold rngS
  rw [if_pos (by omega)]
  simp
theorem rng_nat {n : Nat} (h : n ≤ 100000) (m : Mu) : rngK (.int (n : Nat)) m = .ok ((List.range n).map fun k => .int (k : Nat), []) m := by
  unfold rngK
  simp only
  rw [rngS_nat h]
  simp only [Option.map_some, oWd]
section
variable (m : Mu)
theorem d_non : drf m .non = .non := rfl
theorem d_bl (b : Bool) : drf m (.bl b) = .bl b := rfl
theorem d_int (b : Int) : drf m (.int b) = .int b := rfl
theorem d_str (b : Str) : drf m (.str b) = .str b := rfl
theorem d_tup (g : Bool) (b : List PV) : drf m (.tup g b) = .tup g b := rfl
theorem d_lst (b : List PV) : drf m (.lst b) = .lst b := rfl
theorem d_scr (b : List PV) : drf m (.scr b) = .scr b := rfl
theorem d_dct (k : DK) (b : List PV) : drf m (.dct k b) = .dct k b := rfl
theorem d_ty (b : String) : drf m (.ty b) = .ty b := rfl
end
theorem toDs_map {α : Type} {f : α → PV} {g : α → PyData} (h : ∀ a, toD (f a) = some (g a)) : ∀ l : List α, toDs (l.map f) = some (l.map g)
  | [] => rfl
  | a :: r => by simp [toDs, h a, toDs_map h r]
theorem deps_map {α : Type} {f : α → PV} {n : Nat} (h : ∀ a, dep (f a) ≤ n) : ∀ l : List α, deps (l.map f) ≤ n
  | [] => by simp [deps]
  | a :: r => by
    have h1 := h a
    have h2 := deps_map h r
    simp only [List.map_cons, deps]
    omega
theorem drf_toD {m : Mu} {p : PV} {d : PyData} (h : toD p = some d) : drf m p = p := by
  cases p <;> first | rfl | (simp [toD] at h)
theorem eqS_drf {m : Mu} {p q : PV} {b : Bool} (h : eqS p q = some b) : drf m p = p ∧ drf m q = q := by
  unfold eqS at h
  split at h
  · rename_i h1 h2
    exact ⟨drf_toD h1, drf_toD h2⟩
  · unfold eqL at h
    split at h
    · exact ⟨rfl, rfl⟩
    · cases h
theorem eqS_self {xs : List PV} {ds : List PyData} (h : toDs xs = some ds) (hd : deps xs ≤ 50) : eqS (.lst xs) (.lst xs) = some true := by
  unfold eqS
  have hp : (PyData.list ds).plain = true := toD_plain (p := .lst xs) (by simp [toD, h])
  have hm : deps xs ≤ 59 := by omega
  simp [toD, h, dep, PySem.SeqAt.eqv_refl_plain _ hp, hm]
theorem sortedS_of {xs : List PV} {ds : List PyData} (h : toDs xs = some ds) (ha : PySem.W.AllAlike ds) (hs : PySem.W.Sortable ds) (hl : xs.length ≤ 100) (hd : deps xs ≤ 50) : sortedS xs = some (.lst (srtS xs)) := by
  unfold sortedS
  rw [h]
  exact if_pos ⟨ha, hs, by rw [sizeLine_eq]; omega, by omega⟩
def Asc (xs : List PV) : Prop := xs.Pairwise fun a b => PySem.W.dataLe false encD a b = true ∧ eqS a b = some false
theorem srtS_asc {xs : List PV} (h : xs.Pairwise fun a b => PySem.W.dataLe false encD a b = true) : srtS xs = xs := List.mergeSort_of_pairwise h
/-- a row of things that can be sorted -/
structure Sq (xs : List PV) : Prop where
  ds : ∃ ds, toDs xs = some ds ∧ PySem.W.AllAlike ds ∧ PySem.W.Sortable ds
  dep : deps xs ≤ 50
  len : xs.length ≤ 100
theorem zip_tail {α : Type} {R : α → α → Prop} : ∀ {xs : List α}, xs.Pairwise R → ∀ p ∈ xs.zip xs.tail, R p.1 p.2
  | [], _, p, h => by simp at h
  | [x], _, p, h => by simp at h
  | x :: y :: r, h, p, hp => by
    have hp : p ∈ (x, y) :: (y :: r).zip (y :: r).tail := hp
    obtain ⟨h1, h2⟩ := List.pairwise_cons.mp h
    rcases List.mem_cons.mp hp with rfl | hp
    · exact h1 y (by simp)
    · exact zip_tail h2 p hp
theorem zipS_map : ∀ xs ys : List PV, zipS xs ys = (xs.zip ys).map fun p => .tup false [p.1, p.2]
  | [], _ => rfl
  | _ :: _, [] => rfl
  | x :: xs, y :: ys => by
    show _ :: zipS xs ys = _
    rw [zipS_map xs ys]
    rfl
theorem cut_tail (xs : List PV) : cutP xs (some 1) none = xs.tail := by
  unfold cutP
  cases xs with
  | nil => rfl
  | cons x r => simp [HT.sIx]
theorem p_is_ascending (k : Nat) (xs : List PV) (m : Mu) (h : Sq xs) (ha : Asc xs) : Lv T (k + 1) (PySem.Str.ofString "is_ascending") [.tup true xs] m = .ok (.bl true) m := by
  obtain ⟨⟨ds, e, hal, hso⟩, hdep, hlen⟩ := h
  have hs : sortedS xs = some (.lst xs) := by rw [sortedS_of e hal hso hlen hdep, srtS_asc (ha.imp fun h => h.1)]
  have he : eqS (.lst xs) (.lst xs) = some true := eqS_self e hdep
  have hz : collect (stepC (Lv T k) (.tup [1, 2]) [1, 2] (.cst (.bl true)) (.pr (.cmp .NotEq) (.cons false (.nm 1) (.cons false (.nm 2) .nil))) [some (.tup true xs), none, none]) (keeps [] m) (zipS xs xs.tail) m = .ok ((zipS xs xs.tail).map fun _ => .bl true) m := by
    refine collect_map (g := fun _ => .bl true) (keeps_nil m m) fun y hy => ?_
    rw [zipS_map] at hy
    obtain ⟨p, hp, rfl⟩ := List.mem_map.mp hy
    have q := (zip_tail ha p hp).2
    have q2 := eqS_drf (m := m) q
    simp [stepC, stepD, bindT, wipeR, setAll, noX, ev, evs, bnd_ok, boolR, prR, seesR, d_non, d_bl, d_int, d_str, d_tup, d_lst, d_scr, d_dct, d_ty, prS, bltS, cmpS, oRes, q, q2.1, q2.2]
  have hrep : ((zipS xs xs.tail).map fun _ => PV.bl true) = List.replicate (zipS xs xs.tail).length (.bl true) := List.map_const'
  have hzl : (zipS xs xs.tail).length ≤ 16777216 := by
    rw [zipS_map, List.length_map, List.length_zip]
    omega
  have hl2 : xs.length ≤ 16777216 := by omega
  rw [lv_is_ascending _ _ rfl, bl_is_ascending]
  simp only [exs, ex, evT]
  simp [exs, ex, evT, ev_nm, ev_cst, ev_pr, ev_and, ev_or, ev_ite, ev_call, evs_nil, evs_cons, evs_star, ev_comp, ev_dcomp, evw_seq, evw_zip, evw_rngK, startR, bnd_ok, go_ok, seq_nx, seq_rt, exitS, prR, seesR, d_non, d_bl, d_int, d_str, d_tup, d_lst, d_scr, d_dct, d_ty, prS, bltS, tyS, boolR, oRes, oWd, walkS, fin, kit1, kit2, kit3, kit4, lenS, lim, sizeLine_eq, cmpS, bindT, setAll, itemsS, hs, he, cutS, cut_tail, isL, isT, hzl, hl2, hz, hrep, lsS, all_bls]
end Sn.Lk08
namespace Sn.Lk08
open PySem PySem.Spec PyProof.Rows L2
/-! ### plans as values -/
def eN (es : List Str) : PV := .tup true (es.map .str)
abbrev B3 := Str × Str × Int
abbrev J4 := Str × Str × Int × Int
def eB (b : B3) : PV := .tup true [.str b.1, .str b.2.1, .int b.2.2]
def eJ (j : J4) : PV := .tup true [.str j.1, .str j.2.1, .int j.2.2.1, .int j.2.2.2]
def eK (b : Str × Str) : PV := .tup false [.str b.1, .str b.2]
def eP (lt : Int) (es : List Str) (bs : List B3) (js : List J4) : PV := .tup true [.int lt, eN es, .tup true (bs.map eB), .tup true (js.map eJ)]
theorem sq_strs (es : List Str) (h : es.length ≤ 100) : Sq (es.map .str) where
  ds := ⟨_, toDs_strs es, PySem.W.AllAlike.of fun _ _ => by simp [PySem.W.alike], PySem.W.Sortable.others fun _ => by simp⟩
  dep := by rw [deps_strs]; omega
  len := by simpa using h
theorem sq_keys (ks : List (Str × Str)) (h : ks.length ≤ 100) : Sq (ks.map eK) where
  ds := ⟨_, toDs_map (g := fun b => .tuple [.str b.1, .str b.2]) (fun a => by simp [eK, toD, toDs]) ks, PySem.W.AllAlike.of fun _ _ => by simp [PySem.W.alike, PySem.W.alikeAll], PySem.W.Sortable.tuples fun _ => ⟨_, _, rfl⟩⟩
  dep := Nat.le_trans (deps_map (n := 1) (fun a => by simp [eK, dep, deps]) ks) (by omega)
  len := by simpa using h
def dJ (j : J4) : PyData := .tuple [.str j.1, .str j.2.1, .int j.2.2.1, .int j.2.2.2]
theorem toD_eJ (j : J4) : toD (eJ j) = some (dJ j) := by simp [eJ, dJ, toD, toDs]
theorem sq_jobs (js : List J4) (h : js.length ≤ 100) : Sq (js.map eJ) where
  ds := ⟨_, toDs_map (g := dJ) toD_eJ js, PySem.W.AllAlike.of fun _ _ => by simp [dJ, PySem.W.alike, PySem.W.alikeAll], PySem.W.Sortable.tuples fun _ => ⟨_, _, rfl⟩⟩
  dep := Nat.le_trans (deps_map (n := 1) (fun a => by simp [eJ, dep, deps]) js) (by omega)
  len := by simpa using h
theorem any_strs (x : Str) (es : List Str) : ((es.map PyData.str).any fun y => PyData.eqv y (.str x)) = decide (x ∈ es) := by
  rw [List.any_map, show ((fun y => PyData.eqv y (.str x)) ∘ PyData.str) = fun y => decide (y = x) from funext fun y => eqv_str y x]
  by_cases h : x ∈ es
  · simp only [h, decide_true, List.any_eq_true]
    exact ⟨x, h, by simp⟩
  · simp only [h, decide_false]
    rw [List.any_eq_false]
    intro y hy
    simp only [decide_eq_true_eq]
    rintro rfl
    exact h hy
theorem in_strs (x : Str) (g : Bool) (es : List Str) : inS (.str x) (.tup g (es.map .str)) = some (decide (x ∈ es)) := by
  simp [inS, toD, dep, toDs_strs, any_strs, -List.any_map]
theorem in_lstrs (x : Str) (es : List Str) : inS (.str x) (.lst (es.map .str)) = some (decide (x ∈ es)) := by
  simp [inS, toD, dep, toDs_strs, any_strs, -List.any_map]
theorem eq_strs (x y : Str) : eqS (.str x) (.str y) = some (decide (x = y)) := by
  simp [eqS, toD, dep, eqv_str]
theorem p_is_bound (k : Nat) (es : List Str) (b : B3) (m : Mu) (h1 : b.1 = (PySem.Str.ofString "go") ∨ b.1 ∈ es) (h2 : b.2.1 = (PySem.Str.ofString "go") ∨ b.2.1 ∈ es) (h3 : b.1 ≠ b.2.1) : Lv T (k + 2) (PySem.Str.ofString "is_bound") [eN es, eB b] m = .ok (.bl true) m := by
  rw [lv_is_bound _ _ rfl, bl_is_bound]
  simp [exs, ex, evT, ev_nm, ev_cst, ev_pr, ev_and, ev_or, ev_ite, ev_call, evs_nil, evs_cons, evs_star, ev_comp, ev_dcomp, evw_seq, evw_zip, evw_rngK, startR, bnd_ok, go_ok, seq_nx, seq_rt, exitS, prR, seesR, d_non, d_bl, d_int, d_str, d_tup, d_lst, d_scr, d_dct, d_ty, prS, bltS, tyS, boolR, oRes, oWd, walkS, fin, kit1, kit2, kit3, kit4, lenS, lim, sizeLine_eq, cmpS, bindT, setAll, eN, eB, itemS, atI, ixN, p_is_integer, p_is_point, eq_strs, h1, h2, h3, eqS, toD, dep, PyData.eqv]
theorem p_is_task (k : Nat) (es : List Str) (j : J4) (m : Mu) (h1 : j.1 ∈ es) (h2 : j.2.1 ∈ es) (h3 : 1 ≤ j.2.2.1) (h4 : j.2.2.1 ≤ j.2.2.2) : Lv T (k + 3) (PySem.Str.ofString "is_task") [eN es, eJ j] m = .ok (.bl true) m := by
  rw [lv_is_task _ _ rfl, bl_is_task]
  simp [exs, ex, evT, ev_nm, ev_cst, ev_pr, ev_and, ev_or, ev_ite, ev_call, evs_nil, evs_cons, evs_star, ev_comp, ev_dcomp, evw_seq, evw_zip, evw_rngK, startR, bnd_ok, go_ok, seq_nx, seq_rt, exitS, prR, seesR, d_non, d_bl, d_int, d_str, d_tup, d_lst, d_scr, d_dct, d_ty, prS, bltS, tyS, boolR, oRes, oWd, walkS, fin, kit1, kit2, kit3, kit4, lenS, lim, sizeLine_eq, cmpS, bindT, setAll, eN, eJ, itemS, atI, ixN, p_is_at_least, in_strs, h1, h2, h3, h4, eqS, toD, dep, PyData.eqv]
theorem all_of (k : Nat) (tg : Tg) (own : List Nat) (e : Ex) (ρ : Rho) (xs : List PV) (m : Mu) (h : ∀ x ∈ xs, stepC (Lv T k) tg own (.cst (.bl true)) e ρ x m = .ok [.bl true] m) : collect (stepC (Lv T k) tg own (.cst (.bl true)) e ρ) (keeps [] m) xs m = .ok (List.replicate xs.length (.bl true)) m := by
  rw [collect_map (g := fun _ => .bl true) (keeps_nil m m) h]
  congr 1
  exact List.map_const'
theorem p_are_events (k : Nat) (es : List Str) (m : Mu) (h : ∀ e ∈ es, Nm e) (ha : Asc (es.map .str)) (hl : es.length ≤ 100) : Lv T (k + 2) (PySem.Str.ofString "are_events") [eN es] m = .ok (.bl true) m := by
  have hc := all_of (k + 1) (.nm 1) [1] (.call (PySem.Str.ofString "is_name") (.cons false (.nm 1) .nil)) [some (eN es), none] (es.map .str) m fun x hx => by
    obtain ⟨y, hy, rfl⟩ := List.mem_map.mp hx
    simp [stepC, stepD, bindT, wipeR, setAll, noX, ev, evs, bnd_ok, boolR, prR, seesR, d_non, d_bl, d_int, d_str, d_tup, d_lst, d_scr, d_dct, d_ty, prS, bltS, cmpS, oRes, p_is_name k y m (h y hy)]
  have hl2 : es.length ≤ 16777216 := by omega
  rw [lv_are_events _ _ rfl, bl_are_events]
  simp only [exs, ex, evT]
  simp only [eN] at hc ⊢
  simp [exs, ex, evT, ev_nm, ev_cst, ev_pr, ev_and, ev_or, ev_ite, ev_call, evs_nil, evs_cons, evs_star, ev_comp, ev_dcomp, evw_seq, evw_zip, evw_rngK, startR, bnd_ok, go_ok, seq_nx, seq_rt, exitS, prR, seesR, d_non, d_bl, d_int, d_str, d_tup, d_lst, d_scr, d_dct, d_ty, prS, bltS, tyS, boolR, oRes, oWd, walkS, fin, kit1, kit2, kit3, kit4, lenS, lim, sizeLine_eq, cmpS, bindT, setAll, hl2, hc, lsS, all_bls, p_is_ascending k _ _ (sq_strs es hl) ha]
def ePr (b : B3) : PV := eK (b.1, b.2.1)
theorem p_are_bounds (k : Nat) (es : List Str) (bs : List B3) (m : Mu) (h : ∀ b ∈ bs, (b.1 = (PySem.Str.ofString "go") ∨ b.1 ∈ es) ∧ (b.2.1 = (PySem.Str.ofString "go") ∨ b.2.1 ∈ es) ∧ b.1 ≠ b.2.1) (ha : Asc (bs.map fun b => eK (b.1, b.2.1))) (hl : bs.length ≤ 100) : Lv T (k + 3) (PySem.Str.ofString "are_bounds") [eN es, .tup true (bs.map eB)] m = .ok (.bl true) m := by
  have hc := all_of (k + 2) (.nm 2) [2] (.call (PySem.Str.ofString "is_bound") (.cons false (.nm 0) (.cons false (.nm 2) .nil))) [some (eN es), some (.tup true (bs.map eB)), none, none] (bs.map eB) m fun x hx => by
    obtain ⟨y, hy, rfl⟩ := List.mem_map.mp hx
    simp [stepC, stepD, bindT, wipeR, setAll, noX, ev, evs, bnd_ok, boolR, prR, seesR, d_non, d_bl, d_int, d_str, d_tup, d_lst, d_scr, d_dct, d_ty, prS, bltS, cmpS, oRes, p_is_bound k es y m (h y hy).1 (h y hy).2.1 (h y hy).2.2]
  have hd : collect (stepC (Lv T (k + 2)) (.nm 2) [2] (.cst (.bl true)) (.pr (.slc false true) (.cons false (.nm 2) (.cons false (.cst (.int 2)) .nil))) [some (eN es), some (.tup true (bs.map eB)), none, none]) (keeps [] m) (bs.map eB) m = .ok ((bs.map fun b => (b.1, b.2.1)).map eK) m := by
    rw [collect_map (g := fun p => match p with | .tup _ (a :: b :: _) => .tup false [a, b] | p => p) (keeps_nil m m) fun y hy => ?_]
    · rw [List.map_map, List.map_map]
      rfl
    · obtain ⟨b, hb, rfl⟩ := List.mem_map.mp hy
      simp [stepC, stepD, bindT, wipeR, setAll, noX, ev, evs, bnd_ok, boolR, prR, seesR, d_non, d_bl, d_int, d_str, d_tup, d_lst, d_scr, d_dct, d_ty, prS, bltS, cmpS, oRes, eB, cutS, cutP, HT.sIx]
  have hl2 : bs.length ≤ 16777216 := by omega
  have hasc := p_is_ascending (k + 1) ((bs.map fun b => (b.1, b.2.1)).map eK) m (sq_keys _ (by simpa using hl)) (by rw [List.map_map]; exact ha)
  rw [lv_are_bounds _ _ rfl, bl_are_bounds]
  simp only [exs, ex, evT]
  simp only [eN] at hc hd ⊢
  simp only [exs, ex, evT, ev_nm, ev_cst, ev_pr, ev_and, ev_or, ev_ite, ev_call, evs_nil, evs_cons, evs_star, ev_comp, ev_dcomp, evw_seq, evw_zip, evw_rngK, startR, bnd_ok, go_ok, seq_nx, seq_rt, exitS, prR, seesR, d_non, d_bl, d_int, d_str, d_tup, d_lst, d_scr, d_dct, d_ty, prS, bltS, tyS, boolR, oRes, oWd, walkS, fin, kit1, kit2, kit3, kit4, lenS, lim, sizeLine_eq, cmpS, bindT, setAll, hc, hd, List.length_map, if_pos hl2]
  simp [exs, ex, evT, ev_nm, ev_cst, ev_pr, ev_and, ev_or, ev_ite, ev_call, evs_nil, evs_cons, evs_star, ev_comp, ev_dcomp, evw_seq, evw_zip, evw_rngK, startR, bnd_ok, go_ok, seq_nx, seq_rt, exitS, prR, seesR, d_non, d_bl, d_int, d_str, d_tup, d_lst, d_scr, d_dct, d_ty, prS, bltS, tyS, boolR, oRes, oWd, walkS, fin, kit1, kit2, kit3, kit4, lenS, lim, sizeLine_eq, cmpS, bindT, setAll, hl2, hc, hd, lsS, all_bls, hasc, -List.map_map]
end Sn.Lk08
namespace Sn.Lk08
open PySem PySem.Spec PyProof.Rows L2
/-! ### the dict of begins -/
def ends (js : List J4) : List Str := js.map (·.2.1)
def bD (js : List J4) : PV := .dct (.k ((ends js).map .inr)) (js.map fun j => .str j.1)
theorem put_all {α : Type} {f : α → Str} {g : α → PV} : ∀ (l : List α) (ks : List Key) (vs : List PV), (ks ++ l.map fun a => (.inr (f a) : Key)).Nodup → putAll (.k ks, vs) (l.map fun a => .tup false [.str (f a), g a]) = some (.k (ks ++ l.map fun a => (.inr (f a) : Key)), vs ++ l.map g)
  | [], ks, vs, _ => by simp [putAll]
  | a :: r, ks, vs, h => by
    have hn : (ks.any fun k => decide (k = .inr (f a))) = false := by
      rw [List.any_eq_false]
      intro k hk
      simp only [decide_eq_true_eq]
      rintro rfl
      have := (List.nodup_append.mp h).2.2 _ hk (.inr (f a)) (by simp)
      exact this rfl
    simp only [List.map_cons, putAll, put1, DK.put, keyK, Option.map_some, hn, Bool.false_eq_true, if_false, Option.bind_some]
    have ih := put_all (f := f) (g := g) r (ks ++ [(Sum.inr (f a) : Key)]) (vs ++ [g a]) (by simpa using h)
    rw [ih]
    simp
theorem p_begins_of (k : Nat) (js : List J4) (m : Mu) (hn : (ends js).Nodup) (hl : js.length ≤ 100) : Lv T (k + 1) (PySem.Str.ofString "begins_of") [.tup true (js.map eJ)] m = .ok (bD js) m := by
  have hd : collect (stepD (Lv T k) (.tup [1, 2, 3, 4]) [1, 2, 3, 4] (.cst (.bl true)) (.nm 2) (.nm 1) [some (.tup true (js.map eJ)), none, none, none, none]) (keeps [] m) (js.map eJ) m = .ok (js.map fun j => .tup false [.str j.2.1, .str j.1]) m := by
    rw [collect_map (g := fun p => match p with | .tup _ (a :: b :: _) => .tup false [b, a] | p => p) (keeps_nil m m) fun y hy => ?_]
    · rw [List.map_map]
      rfl
    · obtain ⟨j, hj, rfl⟩ := List.mem_map.mp hy
      simp [stepC, stepD, bindT, wipeR, setAll, noX, ev, evs, bnd_ok, boolR, prR, seesR, d_non, d_bl, d_int, d_str, d_tup, d_lst, d_scr, d_dct, d_ty, prS, bltS, cmpS, oRes, eJ]
  have hl2 : js.length ≤ 16777216 := by omega
  have hnd : (([] : List Key) ++ js.map fun j => (.inr j.2.1 : Key)).Nodup := by
    rw [List.nil_append]
    have : (js.map fun j => (.inr j.2.1 : Key)) = (ends js).map .inr := by simp [ends]
    rw [this]
    exact List.Pairwise.map _ (fun a b h e => h (by cases e; rfl)) hn
  have hp := put_all (f := fun j : J4 => j.2.1) (g := fun j : J4 => PV.str j.1) js [] [] hnd
  rw [lv_begins_of _ _ rfl, bl_begins_of]
  simp [exs, ex, evT, ev_nm, ev_cst, ev_pr, ev_and, ev_or, ev_ite, ev_call, evs_nil, evs_cons, evs_star, ev_comp, ev_dcomp, evw_seq, evw_zip, evw_rngK, startR, bnd_ok, go_ok, seq_nx, seq_rt, exitS, prR, seesR, d_non, d_bl, d_int, d_str, d_tup, d_lst, d_scr, d_dct, d_ty, prS, bltS, tyS, boolR, oRes, oWd, walkS, fin, kit1, kit2, kit3, kit4, lenS, lim, sizeLine_eq, cmpS, bindT, setAll, hl2, hd, hp, bD, ends]
theorem ix_bD (x : Str) : ∀ js : List J4, (x ∈ ends js → ∃ j ∈ js, j.2.1 = x ∧ ∃ i, (((ends js).map (.inr : Str → Key)).findIdx? fun k => decide (k = .inr x)) = some i ∧ (js.map fun j => PV.str j.1)[i]? = some (.str j.1)) ∧ (x ∉ ends js → (((ends js).map (.inr : Str → Key)).findIdx? fun k => decide (k = .inr x)) = none)
  | [] => by simp [ends]
  | j :: js => by
    obtain ⟨h1, h2⟩ := ix_bD x js
    have he : ends (j :: js) = j.2.1 :: ends js := rfl
    by_cases hx : j.2.1 = x
    · subst hx
      refine ⟨fun _ => ⟨j, by simp, rfl, 0, by rw [he, List.map_cons, List.findIdx?_cons]; simp, by simp⟩, fun h => absurd (by simp [he]) h⟩
    · refine ⟨fun h => ?_, fun h => ?_⟩
      · have hm : x ∈ ends js := by
          rcases List.mem_cons.mp (he ▸ h) with e | e
          · exact absurd e.symm hx
          · exact e
        obtain ⟨j', hj, e, i, e1, e2⟩ := h1 hm
        refine ⟨j', by simp [hj], e, i + 1, ?_, by simpa using e2⟩
        rw [he, List.map_cons, List.findIdx?_cons, e1]
        simp [hx]
      · have hm : x ∉ ends js := fun h' => h (by rw [he]; simp [h'])
        rw [he, List.map_cons, List.findIdx?_cons, h2 hm]
        simp [hx]
theorem in_bD (x : Str) (js : List J4) : inS (.str x) (bD js) = some (decide (x ∈ ends js)) := by
  unfold bD inS DK.get DK.ix
  simp only [keyK, Option.map_some]
  by_cases h : x ∈ ends js
  · obtain ⟨j, hj, e, i, e1, e2⟩ := (ix_bD x js).1 h
    rw [e1]
    simp only [Option.bind_some, e2, Option.isSome_some, h, decide_true]
  · rw [(ix_bD x js).2 h]
    simp [h]
theorem item_bD {x : Str} {js : List J4} (h : x ∈ ends js) : ∃ j ∈ js, j.2.1 = x ∧ itemS (bD js) (.str x) = some (.str j.1) := by
  obtain ⟨j, hj, e, i, e1, e2⟩ := (ix_bD x js).1 h
  refine ⟨j, hj, e, ?_⟩
  unfold bD itemS DK.get DK.ix
  simp only [keyK, Option.map_some, e1, Option.bind_some, e2, id]
/-- the chain of begins comes to a root -/
structure Rooted (js : List J4) (rk : Str → Nat) : Prop where
  lt : ∀ j ∈ js, rk j.1 < rk j.2.1
  le : ∀ j ∈ js, rk j.2.1 ≤ js.length
abbrev rRho (js : List J4) (a b c : Option PV) : Rho := [some (.tup true (js.map eJ)), some (bD js), a, b, c]
abbrev rTest : Ex := .and_ (.pr (.cmp .In) (.cons false (.nm 3) (.cons false (.nm 1) .nil))) (.pr (.cmp .LtE) (.cons false (.nm 4) (.cons false (.pr (.blt .len) (.cons false (.nm 0) .nil)) .nil)))
abbrev rStep : Stms := .cons (.par [3, 4] (.cons false (.pr .item (.cons false (.nm 1) (.cons false (.nm 3) .nil))) (.cons false (.pr (.bin .Add) (.cons false (.nm 4) (.cons false (.cst (.int 1)) .nil))) .nil))) .nil
theorem root_wh (k : Nat) (js : List J4) (rk : Str → Nat) (hr : Rooted js rk) (a : Option PV) (m : Mu) : ∀ (n : Nat) (e : Str) (s : Nat), rk e < n → s + rk e ≤ js.length →
    ∃ e' s', whN (evT (Lv T k) rTest) (fun ρ m => exs (Lv T k) rStep ρ m) n (rRho js a (some (.str e)) (some (.int s))) m = .nx (rRho js a (some (.str e')) (some (.int s'))) m ∧ e' ∉ ends js
  | 0, _, _, h, _ => absurd h (Nat.not_lt_zero _)
  | n + 1, e, s, h, hs => by
    unfold whN
    by_cases he : e ∈ ends js
    · have ht : evT (Lv T k) rTest (rRho js a (some (.str e)) (some (.int s))) m = .ok true m := by
        have hi := in_bD e js
        have hle : ¬ ((js.length : Int) < (s : Int)) := by omega
        simp only [rTest, rRho]
        unfold bD at hi ⊢
        simp [exs, ex, evT, ev_nm, ev_cst, ev_pr, ev_and, ev_or, ev_ite, ev_call, evs_nil, evs_cons, evs_star, ev_comp, ev_dcomp, evw_seq, evw_zip, evw_rngK, startR, bnd_ok, go_ok, seq_nx, seq_rt, exitS, prR, seesR, d_non, d_bl, d_int, d_str, d_tup, d_lst, d_scr, d_dct, d_ty, prS, bltS, tyS, boolR, oRes, oWd, walkS, fin, kit1, kit2, kit3, kit4, lenS, lim, sizeLine_eq, cmpS, bindT, setAll, hi, he, ltS, hle]
      obtain ⟨j, hj, e1, e2⟩ := item_bD he
      have hstep : exs (Lv T k) rStep (rRho js a (some (.str e)) (some (.int s))) m = .nx (rRho js a (some (.str j.1)) (some (.int ((s + 1 : Nat) : Int)))) m := by
        simp only [rStep, rRho]
        unfold bD at e2 ⊢
        simp [exs, ex, evT, ev_nm, ev_cst, ev_pr, ev_and, ev_or, ev_ite, ev_call, evs_nil, evs_cons, evs_star, ev_comp, ev_dcomp, evw_seq, evw_zip, evw_rngK, startR, bnd_ok, go_ok, seq_nx, seq_rt, exitS, prR, seesR, d_non, d_bl, d_int, d_str, d_tup, d_lst, d_scr, d_dct, d_ty, prS, bltS, tyS, boolR, oRes, oWd, walkS, fin, kit1, kit2, kit3, kit4, lenS, lim, sizeLine_eq, cmpS, bindT, setAll, e2, binS]
      have hlt := hr.lt j hj
      rw [e1] at hlt
      rw [ht]
      simp only [Res.go, if_true, hstep]
      exact root_wh k js rk hr a m n j.1 (s + 1) (by omega) (by omega)
    · have ht : evT (Lv T k) rTest (rRho js a (some (.str e)) (some (.int s))) m = .ok false m := by
        have hi := in_bD e js
        simp only [rTest, rRho]
        unfold bD at hi ⊢
        simp [exs, ex, evT, ev_nm, ev_cst, ev_pr, ev_and, ev_or, ev_ite, ev_call, evs_nil, evs_cons, evs_star, ev_comp, ev_dcomp, evw_seq, evw_zip, evw_rngK, startR, bnd_ok, go_ok, seq_nx, seq_rt, exitS, prR, seesR, d_non, d_bl, d_int, d_str, d_tup, d_lst, d_scr, d_dct, d_ty, prS, bltS, tyS, boolR, oRes, oWd, walkS, fin, kit1, kit2, kit3, kit4, lenS, lim, sizeLine_eq, cmpS, bindT, setAll, hi, he]
      rw [ht]
      simp only [Res.go, Bool.false_eq_true, if_false]
      exact ⟨e, s, rfl, he⟩
theorem p_is_rooted (k : Nat) (js : List J4) (rk : Str → Nat) (hr : Rooted js rk) (m : Mu) (hn : (ends js).Nodup) (hl : js.length ≤ 100) : Lv T (k + 2) (PySem.Str.ofString "is_rooted") [.tup true (js.map eJ)] m = .ok (.bl true) m := by
  have hf := forL_inv (step := fun ρ m => exs (Lv T (k + 1)) (.cons (.par [3, 4] (.cons false (.nm 2) (.cons false (.cst (.int 0)) .nil))) (.cons (.whl rTest rStep) (.cons (.ite (.pr (.cmp .In) (.cons false (.nm 3) (.cons false (.nm 1) .nil))) (.cons (.ret (.cst (.bl false))) .nil) .nil) .nil))) ρ m) (tg := .nm 2) (ok := keeps [] m)
    (P := fun _ ρ m' => m' = m ∧ ∃ a b c, ρ = rRho js a b c) (fun _ _ _ _ => keeps_nil _ _) (xs := ((ends js).map (.inr : Str → Key)).map keyP) (i := 0) (ρ := rRho js none none none) (m := m) ⟨rfl, _, _, _, rfl⟩ fun i x hx ρ m' ⟨hm, a, b, c, hρ⟩ => by
      subst hm hρ
      have hx := List.mem_of_getElem? hx
      rw [List.map_map] at hx
      obtain ⟨y, hy, rfl⟩ := List.mem_map.mp hx
      obtain ⟨j, hj, rfl⟩ := List.mem_map.mp hy
      have hle := hr.le j hj
      obtain ⟨e', s', hw, hne⟩ := root_wh (k + 1) js rk hr (some (.str j.2.1)) m' (js.length + 1) j.2.1 0 (by omega) (by omega)
      have hw := whL_of hw (by simp)
      refine ⟨_, rRho js (some (.str j.2.1)) (some (.str e')) (some (.int s')), m', rfl, ?_, rfl, _, _, _, rfl⟩
      have hi := in_bD e' js
      simp only [rRho] at hw ⊢
      simp only [keyP, Function.comp]
      have hpar : ex (Lv T (k + 1)) (.par [3, 4] (.cons false (.nm 2) (.cons false (.cst (.int 0)) .nil))) ([some (.tup true (js.map eJ)), some (bD js), a, b, c].set 2 (some (.str j.2.1))) m' = .nx [some (.tup true (js.map eJ)), some (bD js), some (.str j.2.1), some (.str j.2.1), some (.int (0 : Nat))] m' := by
        simp [exs, ex, evT, ev_nm, ev_cst, ev_pr, ev_and, ev_or, ev_ite, ev_call, evs_nil, evs_cons, evs_star, ev_comp, ev_dcomp, evw_seq, evw_zip, evw_rngK, startR, bnd_ok, go_ok, seq_nx, seq_rt, exitS, prR, seesR, d_non, d_bl, d_int, d_str, d_tup, d_lst, d_scr, d_dct, d_ty, prS, bltS, tyS, boolR, oRes, oWd, walkS, fin, kit1, kit2, kit3, kit4, lenS, lim, sizeLine_eq, cmpS, bindT, setAll]
      rw [exs, hpar]
      simp only [SR.seq]
      rw [exs, ex, hw]
      simp only [SR.seq]
      unfold bD at hi ⊢
      simp [exs, ex, evT, ev_nm, ev_cst, ev_pr, ev_and, ev_or, ev_ite, ev_call, evs_nil, evs_cons, evs_star, ev_comp, ev_dcomp, evw_seq, evw_zip, evw_rngK, startR, bnd_ok, go_ok, seq_nx, seq_rt, exitS, prR, seesR, d_non, d_bl, d_int, d_str, d_tup, d_lst, d_scr, d_dct, d_ty, prS, bltS, tyS, boolR, oRes, oWd, walkS, fin, kit1, kit2, kit3, kit4, lenS, lim, sizeLine_eq, cmpS, bindT, setAll, hi, hne]
  obtain ⟨ρ', m', e, hm, a, b, c, hρ⟩ := hf
  subst hm hρ
  rw [lv_is_rooted _ _ rfl, bl_is_rooted]
  have hb := p_begins_of k js m' hn hl
  have h1 : ex (Lv T (k + 1)) (.set (.nm 1) (.call (PySem.Str.ofString "begins_of") (.cons false (.nm 0) .nil))) (startR 5 [.tup true (js.map eJ)]) m' = .nx (rRho js none none none) m' := by
    simp [exs, ex, evT, ev_nm, ev_cst, ev_pr, ev_and, ev_or, ev_ite, ev_call, evs_nil, evs_cons, evs_star, ev_comp, ev_dcomp, evw_seq, evw_zip, evw_rngK, startR, bnd_ok, go_ok, seq_nx, seq_rt, exitS, prR, seesR, d_non, d_bl, d_int, d_str, d_tup, d_lst, d_scr, d_dct, d_ty, prS, bltS, tyS, boolR, oRes, oWd, walkS, fin, kit1, kit2, kit3, kit4, lenS, lim, sizeLine_eq, cmpS, bindT, setAll, hb]
  rw [exs, h1]
  simp only [SR.seq]
  rw [exs, ex]
  simp only [rRho, bD, List.getElem?_cons_succ, List.getElem?_cons_zero]
  simp only [rRho, bD] at e
  rw [e]
  simp [exs, ex, evT, ev_nm, ev_cst, ev_pr, ev_and, ev_or, ev_ite, ev_call, evs_nil, evs_cons, evs_star, ev_comp, ev_dcomp, evw_seq, evw_zip, evw_rngK, startR, bnd_ok, go_ok, seq_nx, seq_rt, exitS, prR, seesR, d_non, d_bl, d_int, d_str, d_tup, d_lst, d_scr, d_dct, d_ty, prS, bltS, tyS, boolR, oRes, oWd, walkS, fin, kit1, kit2, kit3, kit4, lenS, lim, sizeLine_eq, cmpS, bindT, setAll, noXS]
theorem p_are_tasks (k : Nat) (es : List Str) (js : List J4) (rk : Str → Nat) (hr : Rooted js rk) (m : Mu) (hj : ∀ j ∈ js, j.1 ∈ es ∧ j.2.1 ∈ es ∧ 1 ≤ j.2.2.1 ∧ j.2.2.1 ≤ j.2.2.2) (ha : Asc (js.map eJ)) (hn : (ends js).Nodup) (hl : js.length ≤ 100) : Lv T (k + 4) (PySem.Str.ofString "are_tasks") [eN es, .tup true (js.map eJ)] m = .ok (.bl true) m := by
  have hc := all_of (k + 3) (.nm 2) [2] (.call (PySem.Str.ofString "is_task") (.cons false (.nm 0) (.cons false (.nm 2) .nil))) [some (eN es), some (.tup true (js.map eJ)), none] (js.map eJ) m fun x hx => by
    obtain ⟨y, hy, rfl⟩ := List.mem_map.mp hx
    simp [stepC, stepD, bindT, wipeR, setAll, noX, ev, evs, bnd_ok, boolR, prR, seesR, d_non, d_bl, d_int, d_str, d_tup, d_lst, d_scr, d_dct, d_ty, prS, bltS, cmpS, oRes, p_is_task k es y m (hj y hy).1 (hj y hy).2.1 (hj y hy).2.2.1 (hj y hy).2.2.2]
  have hl2 : js.length ≤ 16777216 := by omega
  have h1 := p_begins_of (k + 2) js m hn hl
  have h2 := p_is_rooted (k + 1) js rk hr m hn hl
  have h3 := p_is_ascending (k + 2) (js.map eJ) m (sq_jobs js hl) ha
  rw [lv_are_tasks _ _ rfl, bl_are_tasks]
  simp only [exs, ex, evT]
  simp [exs, ex, evT, ev_nm, ev_cst, ev_pr, ev_and, ev_or, ev_ite, ev_call, evs_nil, evs_cons, evs_star, ev_comp, ev_dcomp, evw_seq, evw_zip, evw_rngK, startR, bnd_ok, go_ok, seq_nx, seq_rt, exitS, prR, seesR, d_non, d_bl, d_int, d_str, d_tup, d_lst, d_scr, d_dct, d_ty, prS, bltS, tyS, boolR, oRes, oWd, walkS, fin, kit1, kit2, kit3, kit4, lenS, lim, sizeLine_eq, cmpS, bindT, setAll, hl2, hc, lsS, all_bls, h1, h2, h3, bD, eqS, toD, dep, PyData.eqv]
/-- a plan -/
structure VP (lt : Int) (es : List Str) (bs : List B3) (js : List J4) (rk : Str → Nat) : Prop where
  lt0 : 0 ≤ lt
  nms : ∀ e ∈ es, Nm e
  asc : Asc (es.map .str)
  esz : es.length ≤ 100
  bnd : ∀ b ∈ bs, (b.1 = (PySem.Str.ofString "go") ∨ b.1 ∈ es) ∧ (b.2.1 = (PySem.Str.ofString "go") ∨ b.2.1 ∈ es) ∧ b.1 ≠ b.2.1
  bas : Asc (bs.map fun b => eK (b.1, b.2.1))
  bsz : bs.length ≤ 100
  jok : ∀ j ∈ js, j.1 ∈ es ∧ j.2.1 ∈ es ∧ 1 ≤ j.2.2.1 ∧ j.2.2.1 ≤ j.2.2.2
  jas : Asc (js.map eJ)
  jnd : (ends js).Nodup
  jrk : Rooted js rk
  jsz : js.length ≤ 100
theorem p_is_plan (k : Nat) {lt : Int} {es : List Str} {bs : List B3} {js : List J4} {rk : Str → Nat} (h : VP lt es bs js rk) (m : Mu) : Lv T (k + 5) (PySem.Str.ofString "is_plan") [eP lt es bs js] m = .ok (.bl true) m := by
  have h1 := p_is_at_least (k + 2) lt 0 m
  have h2 := p_are_events (k + 2) es m h.nms h.asc h.esz
  have h3 := p_are_bounds (k + 1) es bs m h.bnd h.bas h.bsz
  have h4 := p_are_tasks k es js rk h.jrk m h.jok h.jas h.jnd h.jsz
  have h0 := h.lt0
  rw [lv_is_plan _ _ rfl, bl_is_plan]
  simp only [eP]
  simp [exs, ex, evT, ev_nm, ev_cst, ev_pr, ev_and, ev_or, ev_ite, ev_call, evs_nil, evs_cons, evs_star, ev_comp, ev_dcomp, evw_seq, evw_zip, evw_rngK, startR, bnd_ok, go_ok, seq_nx, seq_rt, exitS, prR, seesR, d_non, d_bl, d_int, d_str, d_tup, d_lst, d_scr, d_dct, d_ty, prS, bltS, tyS, boolR, oRes, oWd, walkS, fin, kit1, kit2, kit3, kit4, lenS, lim, sizeLine_eq, cmpS, bindT, setAll, h0, h1, h2, h3, h4, eqS, toD, dep, PyData.eqv]
theorem p_check_plan (k : Nat) {lt : Int} {es : List Str} {bs : List B3} {js : List J4} {rk : Str → Nat} (h : VP lt es bs js rk) (m : Mu) : Lv T (k + 6) (PySem.Str.ofString "check_plan") [eP lt es bs js] m = .ok .non m := by
  have h1 := p_is_plan k h m
  rw [lv_check_plan _ _ rfl, bl_check_plan]
  simp [exs, ex, evT, ev_nm, ev_cst, ev_pr, ev_and, ev_or, ev_ite, ev_call, evs_nil, evs_cons, evs_star, ev_comp, ev_dcomp, evw_seq, evw_zip, evw_rngK, startR, bnd_ok, go_ok, seq_nx, seq_rt, exitS, prR, seesR, d_non, d_bl, d_int, d_str, d_tup, d_lst, d_scr, d_dct, d_ty, prS, bltS, tyS, boolR, oRes, oWd, walkS, fin, kit1, kit2, kit3, kit4, lenS, lim, sizeLine_eq, cmpS, bindT, setAll, h1]
end Sn.Lk08
namespace Sn.Lk08
open PySem PySem.Spec PyProof.Rows L2
section
variable {Φ : FEnv} {ρ : Rho} {m : Mu} {a b c o e : Ex} {as bs : Exs}
theorem ev_idx : ev Φ (.idx o e) ρ m = (ev Φ o ρ m).bind fun p m => match p with
    | .tup true xs => (ev Φ e ρ m).bind fun q m => match q with
      | .str z => oRes m (((allO strS xs).bind fun ys => ys.findIdx? fun y => decide (y = z)).map fun j => .int (j : Nat))
      | _ => .stuck
    | _ => .stuck := by
  simp only [ev] <;> rfl
theorem ev_thw : ev Φ (.thw e) ρ m = (ev Φ e ρ m).bind fun p m => match p with
    | .lst xs => .ok (.loc m.length) (m ++ [.lst xs])
    | _ => .stuck := by
  simp only [ev] <;> rfl
theorem ev_chn {op op2 : CmpOp} : ev Φ (.chn a op b op2 c) ρ m = (ev Φ a ρ m).bind fun x m => (ev Φ b ρ m).bind fun y m =>
    match cmpS op (drf m x) (drf m y) with
    | some true => (ev Φ c ρ m).bind fun z m => oRes m ((cmpS op2 (drf m y) (drf m z)).map .bl)
    | some false => .ok (.bl false) m
    | none => .stuck := by
  simp only [ev] <;> rfl
theorem ev_callk {f : Str} {n k : Nat} {perm : List Nat} : ev Φ (.callk f as bs n k perm) ρ m = (evs Φ as ρ m).bind fun us m => (evs Φ bs ρ m).bind fun ws m => Φ f (permW n k perm us ws) m := by simp only [ev]
end
section
variable {Φ : FEnv} {ρ ρ' : Rho} {m m1 m' : Mu} {s : Stm} {r b : Stms} {R : SR}
theorem run_of {fr : Bool} {n : Nat} {x : SR} {y : Res PV} (h : exs Φ b ρ m = x) (h2 : exitS fr n x = y) : exitS fr n (exs Φ b ρ m) = y := by rw [h, h2]
theorem st_nx (h : ex Φ s ρ m = .nx ρ' m') (h2 : exs Φ r ρ' m' = R) : exs Φ (.cons s r) ρ m = R := by
  rw [exs, h]
  exact h2
theorem st_rt {p : PV} (h : ex Φ s ρ m = .rt p m') : exs Φ (.cons s r) ρ m = .rt p m' := by
  rw [exs, h]
  rfl
theorem if_no {c : Ex} {a : Stms} (h : evT Φ c ρ m = .ok false m1) : ex Φ (.ite c a b) ρ m = exs Φ b ρ m1 := by
  rw [ex, h]
  rfl
theorem if_yes {c : Ex} {a : Stms} (h : evT Φ c ρ m = .ok true m1) : ex Φ (.ite c a b) ρ m = exs Φ a ρ m1 := by
  rw [ex, h]
  rfl
theorem exs_nil : exs Φ .nil ρ m = .nx ρ m := by rw [exs]
theorem st_for {tg : Tg} {it : Wk} {xs : List PV} {ws : List Nat} (hw : evw Φ it ρ m = .ok (xs, ws) m1) (hf : forL (fun ρ m => exs Φ b ρ m) tg (keeps ws m1) xs ρ m1 = .nx ρ' m') (h2 : exs Φ r ρ' m' = R) : exs Φ (.cons (.for_ tg it b) r) ρ m = R := by
  rw [exs, ex, hw]
  simp only [Res.go]
  rw [hf]
  exact h2
end
/-! ### moments -/
def mo (es : List Str) (rs : List Int) (p : Str) : Int := if p = (PySem.Str.ofString "go") then 0 else ((es.findIdx? fun y => decide (y = p)).bind (rs[·]?)).getD 0
theorem all_strs : ∀ es : List Str, allO strS (es.map PV.str) = some es
  | [] => rfl
  | x :: r => by simp [allO, strS, all_strs r]
theorem find_in {p : Str} {es : List Str} (h : p ∈ es) : ∃ i, (es.findIdx? fun y => decide (y = p)) = some i ∧ i < es.length := by
  cases e : es.findIdx? fun y => decide (y = p) with
  | none =>
    have := List.findIdx?_eq_none_iff.mp e p h
    simp at this
  | some i =>
    exact ⟨i, rfl, (List.findIdx?_eq_some_iff_getElem.mp e).1⟩
theorem ix_nat {n i : Nat} (h : i < n) : ixN n (i : Int) = some i := by
  unfold ixN
  rw [if_pos (by omega), if_pos (by omega)]
  simp
theorem at_nat {xs : List PV} {i : Nat} (h : i < xs.length) : atI xs (i : Int) = some xs[i] := by
  unfold atI
  rw [ix_nat h]
  simp [h]
theorem p_moment (es : List Str) (rs : List Int) (p : Str) (h : p = (PySem.Str.ofString "go") ∨ p ∈ es) (hl : rs.length = es.length) (hg : p ≠ (PySem.Str.ofString "go")) : ∃ i, (es.findIdx? fun y => decide (y = p)) = some i ∧ atI (rs.map PV.int) (i : Int) = some (.int (mo es rs p)) := by
  obtain ⟨i, e, hi⟩ := find_in (h.resolve_left hg)
  refine ⟨i, e, ?_⟩
  rw [at_nat (by simp; omega)]
  have hi' : i < rs.length := by omega
  simp [mo, hg, e, hi']
theorem item1 (lt : Int) (es : List Str) (bs : List B3) (js : List J4) : itemS (eP lt es bs js) (.int 1) = some (eN es) := rfl
theorem item3 (lt : Int) (es : List Str) (bs : List B3) (js : List J4) : itemS (eP lt es bs js) (.int 3) = some (.tup true (js.map eJ)) := rfl
theorem item2 (lt : Int) (es : List Str) (bs : List B3) (js : List J4) : itemS (eP lt es bs js) (.int 2) = some (.tup true (bs.map eB)) := rfl
theorem item0 (lt : Int) (es : List Str) (bs : List B3) (js : List J4) : itemS (eP lt es bs js) (.int 0) = some (.int lt) := rfl
theorem drf_eP (m : Mu) (lt : Int) (es : List Str) (bs : List B3) (js : List J4) : drf m (eP lt es bs js) = eP lt es bs js := rfl
theorem p_moment_of (k : Nat) (lt : Int) (es : List Str) (bs : List B3) (js : List J4) (rs : List Int) (p : Str) (m : Mu) (h : p = (PySem.Str.ofString "go") ∨ p ∈ es) (hl : rs.length = es.length) : Lv T (k + 1) (PySem.Str.ofString "moment_of") [eP lt es bs js, .tup true (rs.map .int), .str p] m = .ok (.int (mo es rs p)) m := by
  rw [lv_moment_of _ _ rfl, bl_moment_of]
  by_cases hg : p = (PySem.Str.ofString "go")
  · simp [exs, ex, evT, ev_nm, ev_cst, ev_pr, ev_and, ev_or, ev_ite, ev_call, evs_nil, evs_cons, evs_star, ev_comp, ev_dcomp, evw_seq, evw_zip, evw_rngK, startR, bnd_ok, go_ok, seq_nx, seq_rt, exitS, prR, seesR, d_non, d_bl, d_int, d_str, d_tup, d_lst, d_scr, d_dct, d_ty, prS, bltS, tyS, boolR, oRes, oWd, walkS, fin, kit1, kit2, kit3, kit4, lenS, lim, sizeLine_eq, cmpS, bindT, setAll, eq_strs, hg, mo]
  · obtain ⟨i, e1, e2⟩ := p_moment es rs p h hl hg
    have e3 : itemS (.tup true (rs.map PV.int)) (.int (i : Nat)) = some (.int (mo es rs p)) := e2
    simp [exs, ex, evT, ev_nm, ev_cst, ev_pr, ev_and, ev_or, ev_ite, ev_call, evs_nil, evs_cons, evs_star, ev_comp, ev_dcomp, evw_seq, evw_zip, evw_rngK, startR, bnd_ok, go_ok, seq_nx, seq_rt, exitS, prR, seesR, d_non, d_bl, d_int, d_str, d_tup, d_lst, d_scr, d_dct, d_ty, prS, bltS, tyS, boolR, oRes, oWd, walkS, fin, kit1, kit2, kit3, kit4, lenS, lim, sizeLine_eq, cmpS, bindT, setAll, ev_idx, eq_strs, hg, drf_eP, item1, eN, all_strs, e1, e3]
theorem p_worth (k : Nat) (lt : Int) (es : List Str) (bs : List B3) (js : List J4) (rs : List Int) (p : Str) (m : Mu) (h : p = (PySem.Str.ofString "go") ∨ p ∈ es) (hl : rs.length = es.length) : Lv T (k + 1) (PySem.Str.ofString "_law_worth") [eP lt es bs js, .tup true (rs.map .int), .str p] m = .ok (.int (mo es rs p)) m := by
  rw [lv__law_worth _ _ rfl, bl__law_worth]
  have := p_moment_of k lt es bs js rs p m h hl
  rw [lv_moment_of _ _ rfl, bl_moment_of] at this
  exact this
/-- a run that is one -/
structure VR (es : List Str) (js : List J4) (rs : List Int) : Prop where
  len : rs.length = es.length
  pos : ∀ x ∈ rs, 0 ≤ x
  tsk : ∀ j ∈ js, j.2.2.1 ≤ mo es rs j.2.1 - mo es rs j.1 ∧ mo es rs j.2.1 - mo es rs j.1 ≤ j.2.2.2
end Sn.Lk08
namespace Sn.Lk08
open PySem PySem.Spec PyProof.Rows L2
variable {pre : Mu}
/-! ### what a run of statements comes to -/
def Run (Φ : FEnv) (b : Stms) (ρ : Rho) (m : Mu) (Q : SR → Prop) : Prop := Q (exs Φ b ρ m)
section
variable {Φ : FEnv} {ρ : Rho} {m m1 m' : Mu} {s : Stm} {r b : Stms} {Q : SR → Prop}
theorem run_nx (ρ' : Rho) (m' : Mu) (h : ex Φ s ρ m = .nx ρ' m') (k : Run Φ r ρ' m' Q) : Run Φ (.cons s r) ρ m Q := by
  unfold Run
  rw [st_nx h rfl]
  exact k
theorem run_ite (t : Bool) (m1 : Mu) {c : Ex} {a : Stms} (hc : evT Φ c ρ m = .ok t m1) (k : Run Φ (if t = true then a else b) ρ m1 fun x => ∃ ρ' m', x = .nx ρ' m' ∧ Run Φ r ρ' m' Q) : Run Φ (.cons (.ite c a b) r) ρ m Q := by
  obtain ⟨ρ', m', e, k⟩ := k
  refine run_nx ρ' m' ?_ k
  cases t with
  | true => rw [if_yes hc]; exact e
  | false => rw [if_no hc]; exact e
theorem run_nil (k : Q (.nx ρ m)) : Run Φ .nil ρ m Q := by
  unfold Run
  rw [exs_nil]
  exact k
theorem run_ret {e : Ex} {p : PV} (h : ev Φ e ρ m = .ok p m') (k : Q (.rt p m')) : Run Φ (.cons (.ret e) r) ρ m Q := by
  unfold Run
  have : ex Φ (.ret e) ρ m = .rt p m' := by
    rw [ex, h]
    rfl
  rw [st_rt this]
  exact k
theorem run_for {tg : Tg} {it : Wk} {xs : List PV} {ws : List Nat} (P : Nat → Rho → Mu → Prop) (hw : evw Φ it ρ m = .ok (xs, ws) m1) (hP : ∀ i ρ m, P i ρ m → keeps ws m1 m) (h0 : P 0 ρ m1)
    (hs : ∀ j x, xs[j]? = some x → ∀ ρ m, P j ρ m → ∃ ρ1, bindT tg x ρ = some ρ1 ∧ Run Φ b ρ1 m fun y => ∃ ρ2 m2, y = .nx ρ2 m2 ∧ P (j + 1) ρ2 m2)
    (k : ∀ ρ' m', P xs.length ρ' m' → Run Φ r ρ' m' Q) : Run Φ (.cons (.for_ tg it b) r) ρ m Q := by
  obtain ⟨ρ', m', e, hp⟩ := forL_inv (step := fun ρ m => exs Φ b ρ m) (tg := tg) (ok := keeps ws m1) hP (i := 0) h0 fun j x hx ρ m hj => by
    rw [Nat.zero_add] at hj ⊢
    obtain ⟨ρ1, e1, ρ2, m2, e2, h2⟩ := hs j x hx ρ m hj
    exact ⟨ρ1, ρ2, m2, e1, e2, h2⟩
  rw [Nat.zero_add] at hp
  unfold Run
  rw [st_for hw e rfl]
  exact k ρ' m' hp
end
/-! ### draws -/
def Sk (pre : Mu) (N : Nat) (r m : Mu) : Prop := ∃ a b c : Int, m = pre ++ .lst [.int a, .int b, .int c] :: r ∧ 0 ≤ a ∧ 0 ≤ b ∧ b < 2 ^ 200 ∧ 0 ≤ c ∧ c ≤ N
theorem sk_dip (k : Nat) {N : Nat} {r m : Mu} (h : Sk pre N r m) (w : Int) (hw : 0 < w) (hw2 : w < 1000) (hN : N < 1000000) : ∃ (d : Nat) (m' : Mu), Lv T (k + 1) (PySem.Str.ofString "_law_dip") [.loc pre.length, .int w] m = .ok (.int d) m' ∧ (d : Int) < w ∧ Sk pre (N + 1) r m' := by
  obtain ⟨a, b, c, rfl, h1, h2, h3, h4, h5⟩ := h
  obtain ⟨d, a', c', e, d0, d1, g1, g2, g3⟩ := p_dip k a b c w pre r h1 h2 h3 h4 (by omega) hw (by omega)
  refine ⟨d.toNat, _, by rw [Int.toNat_of_nonneg d0]; exact e, by omega, a', b, c', rfl, g1, h2, h3, by omega, by omega⟩
theorem Sk.mono {N M : Nat} {r m : Mu} (h : Sk pre N r m) (hm : N ≤ M) : Sk pre M r m := by
  obtain ⟨a, b, c, e, h1, h2, h3, h4, h5⟩ := h
  exact ⟨a, b, c, e, h1, h2, h3, h4, by omega⟩
theorem sk_cl {N : Nat} {r m : Mu} (h : Sk pre N r m) (hr : Cl (pre ++ r)) : Cl m := by
  obtain ⟨a, b, c, rfl, _⟩ := h
  intro o ho n
  rcases List.mem_append.mp ho with ho | ho
  · exact hr o (List.mem_append_left _ ho) n
  · rcases List.mem_cons.mp ho with rfl | ho
    · simp [lbM, lbs, lb]
    · exact hr o (List.mem_append_right _ ho) n
theorem sk_len {N : Nat} {r m : Mu} (h : Sk pre N r m) : m.length = pre.length + (r.length + 1) := by
  obtain ⟨a, b, c, rfl, _⟩ := h
  simp
theorem sk_new {N : Nat} {r m : Mu} (h : Sk pre N r m) (o : MO) : Sk pre N (r ++ [o]) (m ++ [o]) := by
  obtain ⟨a, b, c, rfl, g⟩ := h
  exact ⟨a, b, c, by simp, g⟩
theorem end_get (pre r : Mu) (x o : MO) : (pre ++ x :: (r ++ [o]))[pre.length + (r.length + 1)]? = some o := by
  rw [List.getElem?_append_right (by omega), show pre.length + (r.length + 1) - pre.length = r.length + 1 by omega]
  simp
theorem end_set (pre r : Mu) (x o o' : MO) : (pre ++ x :: (r ++ [o])).set (pre.length + (r.length + 1)) o' = pre ++ x :: (r ++ [o']) := by
  rw [List.set_append_right _ _ (by omega), show pre.length + (r.length + 1) - pre.length = r.length + 1 by omega]
  simp
theorem sk_at {N : Nat} {r m : Mu} {xs : List PV} (h : Sk pre N (r ++ [.lst xs]) m) : m[pre.length + (r.length + 1)]? = some (.lst xs) := by
  obtain ⟨a, b, c, rfl, _⟩ := h
  exact end_get ..
theorem sk_drf {N : Nat} {r m : Mu} {xs : List PV} (h : Sk pre N (r ++ [.lst xs]) m) : drf m (.loc (pre.length + (r.length + 1))) = .lst xs := by
  simp only [drf, sk_at h]
theorem sk_app {N : Nat} {r m : Mu} {xs : List PV} (h : Sk pre N (r ++ [.lst xs]) m) (hl : xs.length ≤ 1000) (q : PV) : isLo (.loc (pre.length + (r.length + 1))) m = true ∧ ∃ m', appS (.loc (pre.length + (r.length + 1))) q m = some m' ∧ Sk pre N (r ++ [.lst (xs ++ [q])]) m' := by
  have hlt : xs.length < 16777216 := by omega
  have he := sk_at h
  refine ⟨by simp [isLo, lstAt, he], m.set (pre.length + (r.length + 1)) (.lst (xs ++ [q])), by simp [appS, lstAt, he, sizeLine_eq, hlt], ?_⟩
  obtain ⟨a, b, c, rfl, g⟩ := h
  exact ⟨a, b, c, end_set .., g⟩
/-- given up at the end -/
theorem sk_fin {N : Nat} {r m m0 : Mu} {o : MO} {g : Bool} {xs : List PV} (h : Sk pre N (r ++ [o]) m) (hr : Cl (pre ++ r)) (h0 : m0.length = pre.length + (r.length + 1)) (hx : lbs m0.length xs = true) : ∃ m', fin m0.length (.tup g xs) m = .ok (.tup g xs) m' ∧ Sk pre N r m' := by
  obtain ⟨a, b, c, rfl, q⟩ := h
  have hs : Sk pre N r (pre ++ .lst [.int a, .int b, .int c] :: r) := ⟨a, b, c, rfl, q⟩
  have hc := sk_cl hs hr
  refine ⟨pre ++ .lst [.int a, .int b, .int c] :: r, ?_, hs⟩
  have hl := sk_len hs
  have := fin_tup (m := pre ++ .lst [.int a, .int b, .int c] :: r) (g := g) (xs := xs) (o := o) hc (by rw [hl, ← h0]; exact hx)
  rw [hl, ← h0] at this
  rw [show pre ++ MO.lst [.int a, .int b, .int c] :: (r ++ [o]) = (pre ++ MO.lst [.int a, .int b, .int c] :: r) ++ [o] by simp]
  exact this
end Sn.Lk08
namespace Sn.Lk08
open PySem PySem.Spec PyProof.Rows L2
/-! ### names as lists of signs -/
def okc (c : Nat) : Prop := 97 ≤ c ∧ c < 123
structure Okw (w : List Nat) : Prop where
  let_ : ∀ c ∈ w, okc c
  ne : w ≠ []
  len : w.length ≤ 8
theorem lt_app (w : List Nat) (c : Nat) : w < w ++ [c] := by
  induction w with
  | nil => exact List.nil_lt_cons _ _
  | cons x r ih => exact List.cons_lt_cons_iff.mpr (.inr ⟨rfl, ih⟩)
theorem lt_pre (a : List Nat) {u v : List Nat} (h : u < v) : a ++ u < a ++ v := by
  induction a with
  | nil => exact h
  | cons x r ih => exact List.cons_lt_cons_iff.mpr (.inr ⟨rfl, ih⟩)
/-- names so far -/
structure Ws (f : Nat) (ws : List (List Nat)) : Prop where
  pw : ws.Pairwise (· < ·)
  ok : ∀ w ∈ ws, Okw w ∧ w ≠ [103, 111]
  hd : ∀ wl, ws.getLast? = some wl → ∃ h t, wl = h :: t ∧ h + 1 ≤ 97 + f + 3 * ws.length
/-- a name that may come next -/
structure Nw (f : Nat) (ws : List (List Nat)) (w : List Nat) : Prop where
  ok : Okw w
  lt : ∀ wl, ws.getLast? = some wl → wl < w
  hd : ∃ h t, w = h :: t ∧ h ≤ 97 + f + 3 * ws.length + 2
theorem nw_fresh {f d : Nat} {ws : List (List Nat)} {u : List Nat} (h : Ws f ws) (hf : f < 6) (hk : ws.length ≤ 6) (hd : d < 3) (hu : ∀ c ∈ u, okc c) (hl : u.length ≤ 7) : Nw f ws ((97 + (f + 3 * ws.length + d)) :: u) where
  ok := ⟨fun c hc => by
    rcases List.mem_cons.mp hc with rfl | hc
    · unfold okc; omega
    · exact hu c hc, by simp, by simp; omega⟩
  lt := fun wl e => by
    obtain ⟨x, t, rfl, hx⟩ := h.hd wl e
    exact List.cons_lt_cons_iff.mpr (.inl (by omega))
  hd := ⟨_, _, rfl, by omega⟩
theorem nw_app {f c : Nat} {ws : List (List Nat)} {wl : List Nat} (h : Ws f ws) (e : ws.getLast? = some wl) (hl : wl.length < 8) (hc : okc c) : Nw f ws (wl ++ [c]) where
  ok := ⟨fun x hx => by
    rcases List.mem_append.mp hx with hx | hx
    · exact (h.ok wl (List.mem_of_getLast? e)).1.let_ x hx
    · rw [List.mem_singleton.mp hx]; exact hc, by simp, by simp; omega⟩
  lt := fun w e2 => by
    rw [e] at e2
    cases e2
    exact lt_app wl c
  hd := by
    obtain ⟨x, t, rfl, hx⟩ := h.hd wl e
    exact ⟨x, t ++ [c], rfl, by omega⟩
theorem nw_inc {f c : Nat} {ws : List (List Nat)} {a t u : List Nat} (h : Ws f ws) (e : ws.getLast? = some (a ++ c :: t)) (hc : c < 122) (hu : ∀ c ∈ u, okc c) (hl : a.length + 1 + u.length ≤ 8) : Nw f ws (a ++ (c + 1) :: u) where
  ok := ⟨fun x hx => by
    have ho := (h.ok _ (List.mem_of_getLast? e)).1.let_
    rcases List.mem_append.mp hx with hx | hx
    · exact ho x (by simp [hx])
    · rcases List.mem_cons.mp hx with rfl | hx
      · have := ho c (by simp)
        unfold okc at this ⊢
        omega
      · exact hu x hx, by simp, by simp; omega⟩
  lt := fun w e2 => by
    rw [e] at e2
    cases e2
    exact lt_pre a (List.cons_lt_cons_iff.mpr (.inl (by omega)))
  hd := by
    obtain ⟨x, t', e2, hx⟩ := h.hd _ e
    cases a with
    | nil =>
      cases e2
      exact ⟨_, _, rfl, by omega⟩
    | cons y a =>
      cases e2
      exact ⟨_, _, rfl, by omega⟩
def fixN (w : List Nat) : List Nat := if w = [103, 111] then [103, 111, 110, 101] else w
theorem last_max {ws : List (List Nat)} (h : ws.Pairwise (· < ·)) {wl : List Nat} (e : ws.getLast? = some wl) : ∀ w ∈ ws, w = wl ∨ w < wl := fun w hw => by
  obtain ⟨pre, rfl⟩ : ∃ pre, ws = pre ++ [wl] := by
    rcases List.eq_nil_or_concat ws with rfl | ⟨pre, x, rfl⟩
    · cases e
    · refine ⟨pre, ?_⟩
      rw [List.concat_eq_append] at e ⊢
      rw [List.getLast?_concat] at e
      cases e
      rfl
  rcases List.mem_append.mp hw with hw | hw
  · exact .inr ((List.pairwise_append.mp h).2.2 w hw wl (by simp))
  · exact .inl (List.mem_singleton.mp hw)
theorem ws_add {f : Nat} {ws : List (List Nat)} {w : List Nat} (h : Ws f ws) (n : Nw f ws w) : Ws f (ws ++ [fixN w]) := by
  have hge : w = fixN w ∨ w < fixN w := by
    unfold fixN
    split
    · rename_i e
      subst e
      exact .inr (by decide)
    · exact .inl rfl
  have hok : Okw (fixN w) ∧ fixN w ≠ [103, 111] := by
    unfold fixN
    split
    · refine ⟨⟨?_, by simp, by simp⟩, by simp⟩
      intro c hc
      simp at hc
      unfold okc
      omega
    · rename_i e
      exact ⟨n.ok, e⟩
  refine ⟨List.pairwise_append.mpr ⟨h.pw, by simp, fun a ha b hb => ?_⟩, fun x hx => ?_, fun wl e => ?_⟩
  · rw [List.mem_singleton.mp hb]
    have hlt : a < w := by
      cases e : ws.getLast? with
      | none =>
        rw [List.getLast?_eq_none_iff] at e
        rw [e] at ha
        simp at ha
      | some wl =>
        rcases last_max h.pw e a ha with rfl | h1
        · exact n.lt _ e
        · exact List.lt_trans h1 (n.lt _ e)
    rcases hge with e | e
    · rw [← e]; exact hlt
    · exact List.lt_trans hlt e
  · rcases List.mem_append.mp hx with hx | hx
    · exact h.ok x hx
    · rw [List.mem_singleton.mp hx]; exact hok
  · rw [List.getLast?_concat] at e
    cases e
    obtain ⟨x, t, e, hx⟩ := n.hd
    unfold fixN
    rw [List.length_append, List.length_singleton]
    split
    · rename_i e2
      rw [e2] at e
      cases e
      exact ⟨103, _, rfl, by omega⟩
    · exact ⟨x, t, e, by omega⟩
theorem go_S : PySem.Str.ofString "go" = SX.S [103, 111] := by decide +kernel
theorem nil_S : PySem.Str.ofString "" = SX.S [] := by decide +kernel
theorem gone_S : PySem.Str.ofString "gone" = SX.S [103, 111, 110, 101] := by decide +kernel
theorem abc_S : PySem.Str.ofString "abcdefghijklmnopqrstuvwxyz" = SX.S ((List.range 26).map (97 + ·)) := by decide +kernel
theorem ws_nm {f : Nat} {ws : List (List Nat)} (h : Ws f ws) : ∀ e ∈ ws.map SX.S, Nm e := fun e he => by
  obtain ⟨w, hw, rfl⟩ := List.mem_map.mp he
  obtain ⟨h1, h2⟩ := h.ok w hw
  refine ⟨?_, ?_, by rw [SX.S_len]; exact h1.len, h1.let_⟩
  · rw [nil_S]
    exact fun e => h1.ne (SX.S_inj e)
  · rw [go_S]
    exact fun e => h2 (SX.S_inj e)
theorem ws_asc {f : Nat} {ws : List (List Nat)} (h : Ws f ws) : Asc ((ws.map SX.S).map .str) := by
  unfold Asc
  rw [List.map_map]
  refine List.Pairwise.map _ (fun a b hab => ⟨?_, ?_⟩) h.pw
  · rw [PySem.W.dataLe_eq]
    simp only [Function.comp, cond_false, encD, toD, Option.getD_some, PySem.W.dataLt_str]
    have : ¬ b < a := List.lt_asymm hab
    simp [this]
  · simp only [Function.comp, eq_strs]
    have : SX.S a ≠ SX.S b := fun e => by
      rw [SX.S_inj e] at hab
      exact List.lt_irrefl _ hab
    simp [this]
end Sn.Lk08
namespace Sn.Lk08
open PySem PySem.Spec PyProof.Rows L2
theorem run_inv {Φ : FEnv} {ρ : Rho} {m : Mu} {r b : Stms} {Q : SR → Prop} {c : Ex} {a : Stms} (J : Rho → Mu → Prop) (h : ∃ t m1, evT Φ c ρ m = .ok t m1 ∧ Run Φ (if t = true then a else b) ρ m1 fun x => ∃ ρ' m', x = .nx ρ' m' ∧ J ρ' m') (k : ∀ ρ' m', J ρ' m' → Run Φ r ρ' m' Q) : Run Φ (.cons (.ite c a b) r) ρ m Q := by
  obtain ⟨t, m1, hc, ρ', m', e, hj⟩ := h
  exact run_ite t m1 hc ⟨ρ', m', e, k ρ' m' hj⟩
/-! ### texts, kept whole -/
def eW (w : List Nat) : PV := .str (SX.S w)
def Ltr : PV := .str (PySem.Str.ofString "abcdefghijklmnopqrstuvwxyz")
theorem at_gen {α : Type} {xs : List α} {i : Nat} (h : i < xs.length) : atI xs (i : Int) = some xs[i] := by
  unfold atI
  rw [ix_nat h]
  simp [h]
theorem d_eW (m : Mu) (w : List Nat) : drf m (eW w) = eW w := rfl
theorem d_Ltr (m : Mu) : drf m Ltr = Ltr := rfl
theorem it_eW {w : List Nat} {i : Nat} (h : i < w.length) (hl : w.length ≤ 100) : itemS (eW w) (.int (i : Nat)) = some (eW [w[i]]) := by
  unfold eW itemS
  dsimp only
  rw [SX.S_len, if_pos (by rw [sizeLine_eq]; omega), at_gen h]
  rfl
theorem it_Ltr {i : Nat} (h : i < 26) : itemS Ltr (.int (i : Nat)) = some (eW [97 + i]) := by
  have e : Ltr = eW ((List.range 26).map (97 + ·)) := by
    unfold Ltr eW
    rw [abc_S]
  rw [e, it_eW (by simpa using h) (by simp)]
  simp
theorem len_eW {w : List Nat} (hl : w.length ≤ 100) : lenS (eW w) = some (.int (w.length : Nat)) := by
  unfold eW lenS
  dsimp only
  rw [SX.S_len, if_pos (by rw [sizeLine_eq]; omega)]
theorem add_eW {a b : List Nat} (hl : a.length + b.length ≤ 100) : binS .Add (eW a) (eW b) = some (eW (a ++ b)) := by
  unfold eW binS lim
  dsimp only
  rw [SX.S_len, SX.S_len, if_pos (by rw [sizeLine_eq]; omega), SX.S_cat]
theorem eq_eW (a b : List Nat) : eqS (eW a) (eW b) = some (decide (a = b)) := by
  unfold eW
  rw [eq_strs]
  by_cases h : a = b
  · subst h; simp
  · have : SX.S a ≠ SX.S b := fun e => h (SX.S_inj e)
    simp [h, this]
theorem go_eW : PV.str (PySem.Str.ofString "go") = eW [103, 111] := by rw [go_S]; rfl
theorem gone_eW : PV.str (PySem.Str.ofString "gone") = eW [103, 111, 110, 101] := by rw [gone_S]; rfl
theorem cutS_eW {lo hi : Option Int} {w : List Nat} (hl : w.length ≤ 100) : cutS lo hi (eW w) = some (.str (Txt.slice (SX.S w) lo hi)) := by
  unfold eW cutS
  dsimp only
  rw [SX.S_len, if_pos (by rw [sizeLine_eq]; omega), C8.cutS_slice]
theorem from_eW {i : Int} {w : List Nat} (hi : 0 ≤ i) (hl : w.length ≤ 100) : cutS (some i) none (eW w) = some (eW (w.drop i.toNat)) := by
  rw [cutS_eW hl, SX.slice_from hi]
  rfl
theorem to_eW {i : Int} {w : List Nat} (hi : 0 ≤ i) (hl : w.length ≤ 100) : cutS none (some i) (eW w) = some (eW (w.take i.toNat)) := by
  rw [cutS_eW hl, SX.slice_to hi]
  rfl
theorem joinL_nil : ∀ u : List Nat, TL.joinL [] (u.map fun c => [c]) = u
  | [] => rfl
  | [c] => rfl
  | c :: d :: r => by
    have h := joinL_nil (d :: r)
    show [c] ++ ([] ++ TL.joinL [] ((d :: r).map fun c => [c])) = _
    rw [h]
    rfl
theorem all_eW : ∀ u : List Nat, allO strS (u.map fun c => eW [c]) = some (u.map fun c => SX.S [c])
  | [] => rfl
  | c :: r => by
    have h := all_eW r
    simp only [List.map_cons, allO, h]
    rfl
theorem join_eW {u : List Nat} (hl : u.length ≤ 100) : mthS .join [.str (PySem.Str.ofString ""), .lst (u.map fun c => eW [c])] = some (eW u) := by
  have h1 : ((u.map fun c => SX.S [c]).map (·.length)).sum = u.length := by
    induction u with
    | nil => rfl
    | cons c r ih =>
      simp only [List.map_cons, List.sum_cons]
      rw [ih (by simp at hl; omega), List.length_cons, SX.S_len]
      simp
      omega
  unfold mthS
  simp only [itemsS, Option.bind_some, all_eW]
  rw [nil_S, h1, if_pos (by rw [SX.S_len]; simp; omega)]
  have := SX.join_S [] (u.map fun c => [c])
  rw [List.map_map, joinL_nil] at this
  show some (PV.str (Txt.join (SX.S []) (u.map fun c => SX.S [c]))) = _
  rw [show (u.map fun c => SX.S [c]) = u.map (SX.S ∘ fun c => [c]) from rfl, this]
  rfl
theorem last_it {ws : List (List Nat)} {wl : List Nat} (e : ws.getLast? = some wl) : itemS (.lst (ws.map eW)) (.int (-1)) = some (eW wl) := by
  have hne : ws ≠ [] := by rintro rfl; cases e
  have hpos : 0 < ws.length := List.length_pos_iff.mpr hne
  show atI (ws.map eW) (-1) = _
  unfold atI
  have hi : ixN (ws.map eW).length (-1) = some (ws.length - 1) := by
    unfold ixN
    rw [List.length_map]
    first
      | rw [if_neg (by omega), if_pos (by omega)]; simp; omega
      | (simp; omega)
  rw [hi]
  rw [List.getLast?_eq_getElem?] at e
  simp [e]
theorem ne_nil (ws : List (List Nat)) : eqS (.lst (ws.map eW)) (.lst []) = some ws.isEmpty := by
  have hd : deps (ws.map eW) ≤ 0 := deps_map (fun _ => by simp [eW, dep]) ws
  have ht : toDs (ws.map eW) = some (ws.map fun w => .str (SX.S w)) := toDs_map (fun _ => by simp [eW, toD]) ws
  unfold eqS
  simp only [toD, ht, toDs, Option.map_some, dep, deps]
  cases ws <;> simp [PyData.eqv, PyData.eqvAll]
theorem eq_int (a b : Int) : eqS (.int a) (.int b) = some (decide (a = b)) := by
  simp [eqS, toD, dep, PyData.eqv]
  by_cases h : a = b
  · simp [h]
  · simp [h]
theorem run_or {Φ : FEnv} {ρ : Rho} {m : Mu} {r b : Stms} {Q : SR → Prop} {c : Ex} {a : Stms} (J : Rho → Mu → Prop) (h : (∃ m1, evT Φ c ρ m = .ok false m1 ∧ Run Φ b ρ m1 fun x => ∃ ρ' m', x = .nx ρ' m' ∧ J ρ' m') ∨ ∃ m1, evT Φ c ρ m = .ok true m1 ∧ Run Φ a ρ m1 fun x => ∃ ρ' m', x = .nx ρ' m' ∧ J ρ' m') (k : ∀ ρ' m', J ρ' m' → Run Φ r ρ' m' Q) : Run Φ (.cons (.ite c a b) r) ρ m Q := by
  rcases h with ⟨m1, hc, hk⟩ | ⟨m1, hc, hk⟩
  · exact run_inv J ⟨false, m1, hc, hk⟩ k
  · exact run_inv J ⟨true, m1, hc, hk⟩ k
end Sn.Lk08
namespace Sn.Lk08
open PySem PySem.Spec PyProof.Rows L2
/-! ### jobs -/
structure J0 (es : List Str) (sp : List Str) (js : List J4) (rk : Str → Nat) : Prop where
  nd : sp.Nodup
  sub : ∀ x ∈ sp, x ∈ es
  out : ∀ x ∈ sp, x ∉ ends js
  jok : ∀ j ∈ js, j.1 ∈ es ∧ j.2.1 ∈ es ∧ 1 ≤ j.2.2.1 ∧ j.2.2.1 ≤ j.2.2.2
  jw : ∀ j ∈ js, j.2.2.2 - j.2.2.1 < 900
  jnd : (ends js).Nodup
  lt : ∀ j ∈ js, rk j.1 < rk j.2.1 ∧ rk j.2.1 ≤ js.length
  zer : ∀ x, x ∉ ends js → rk x = 0
theorem mem_ends {x : Str} {js : List J4} : x ∈ ends js ↔ ∃ j ∈ js, j.2.1 = x := by simp [ends]
theorem ends_add (js : List J4) (j : J4) : ends (js ++ [j]) = ends js ++ [j.2.1] := by simp [ends]
open Classical in
theorem j0_add {es sp : List Str} {js : List J4} {rk : Str → Nat} (h : J0 es sp js rk) {a b : Str} {lo hi : Int} (hb : b ∈ sp) (ha : a ∈ sp.filter fun x => decide (x ≠ b)) (hl : 1 ≤ lo) (hh : lo ≤ hi) (hw : hi - lo < 900) : ∃ rk', J0 es (sp.filter fun x => decide (x ≠ b)) (js ++ [(a, b, lo, hi)]) rk' := by
  have hfm : ∀ x, x ∈ (sp.filter fun x => decide (x ≠ b)) ↔ x ∈ sp ∧ x ≠ b := fun x => by simp [List.mem_filter]
  have ha' := (hfm a).mp ha
  have hout : ∀ x ∈ (sp.filter fun x => decide (x ≠ b)), x ∉ ends (js ++ [(a, b, lo, hi)]) := fun x hx hm => by
    rw [ends_add] at hm
    rcases List.mem_append.mp hm with hm | hm
    · exact h.out x ((hfm x).mp hx).1 hm
    · exact ((hfm x).mp hx).2 (List.mem_singleton.mp hm)
  refine ⟨fun x => if x ∈ ends (js ++ [(a, b, lo, hi)]) then rk x + 1 else 0, h.nd.filter _, fun x hx => h.sub x ((hfm x).mp hx).1, hout, fun j hj => ?_, fun j hj => ?_, ?_, fun j hj => ?_, fun x hx => if_neg hx⟩
  · rcases List.mem_append.mp hj with hj | hj
    · exact h.jok j hj
    · rw [List.mem_singleton.mp hj]
      exact ⟨h.sub a ha'.1, h.sub b hb, hl, hh⟩
  · rcases List.mem_append.mp hj with hj | hj
    · exact h.jw j hj
    · rw [List.mem_singleton.mp hj]
      exact hw
  · rw [ends_add]
    refine List.nodup_append.mpr ⟨h.jnd, by simp, fun x hx y hy => ?_⟩
    rw [List.mem_singleton.mp hy]
    rintro rfl
    exact h.out _ hb hx
  · rcases List.mem_append.mp hj with hj | hj
    · have h1 := h.lt j hj
      have hm : j.2.1 ∈ ends (js ++ [(a, b, lo, hi)]) := by
        rw [ends_add]
        exact List.mem_append_left _ (mem_ends.mpr ⟨j, hj, rfl⟩)
      simp only [if_pos hm, List.length_append, List.length_singleton]
      refine ⟨?_, by omega⟩
      split <;> omega
    · rw [List.mem_singleton.mp hj]
      have hm : b ∈ ends (js ++ [(a, b, lo, hi)]) := by rw [ends_add]; simp
      have hn := hout a ha
      have hz := h.zer b (h.out b hb)
      simp only [if_pos hm, if_neg hn, List.length_append, List.length_singleton]
      omega
/-- what is drawn of jobs -/
structure Js (es : List Str) (js : List J4) (rk : Str → Nat) : Prop where
  jok : ∀ j ∈ js, j.1 ∈ es ∧ j.2.1 ∈ es ∧ 1 ≤ j.2.2.1 ∧ j.2.2.1 ≤ j.2.2.2
  jw : ∀ j ∈ js, j.2.2.2 - j.2.2.1 < 900
  jas : Asc (js.map eJ)
  jnd : (ends js).Nodup
  jrk : Rooted js rk
  jsz : js.length ≤ 3
theorem srt_pw (xs : List PV) : (srtS xs).Pairwise fun a b => PySem.W.dataLe false encD a b = true := PySem.W.sort_pairwise (PySem.W.sortLe_total _ _ _) xs
theorem srt_map {α : Type} (f : α → PV) (l : List α) : srtS (l.map f) = (l.mergeSort fun a b => PySem.W.dataLe false encD (f a) (f b)).map f := (PySem.W.sort_maps f fun _ _ _ _ => rfl).symm
theorem j0_sort {es sp : List Str} {js : List J4} {rk : Str → Nat} (h : J0 es sp js rk) (hl : js.length ≤ 3) : ∃ js', sortedS (js.map eJ) = some (.lst (js'.map eJ)) ∧ Js es js' rk := by
  have hs := sq_jobs js (by omega)
  obtain ⟨ds, e, hal, hso⟩ := hs.ds
  refine ⟨js.mergeSort fun a b => PySem.W.dataLe false encD (eJ a) (eJ b), by rw [sortedS_of e hal hso hs.len hs.dep, srt_map], ?_⟩
  have hp := List.mergeSort_perm js fun a b => PySem.W.dataLe false encD (eJ a) (eJ b)
  have hnd : (ends (js.mergeSort fun a b => PySem.W.dataLe false encD (eJ a) (eJ b))).Nodup := (hp.map _).nodup_iff.mpr h.jnd
  refine ⟨fun j hj => h.jok j (hp.mem_iff.mp hj), fun j hj => h.jw j (hp.mem_iff.mp hj), ?_, hnd, ⟨fun j hj => (h.lt j (hp.mem_iff.mp hj)).1, fun j hj => by rw [hp.length_eq]; exact (h.lt j (hp.mem_iff.mp hj)).2⟩, by rw [hp.length_eq]; exact hl⟩
  unfold Asc
  have h1 := srt_pw (js.map eJ)
  rw [srt_map] at h1
  refine h1.and ?_
  rw [List.pairwise_map]
  have h2 : (js.mergeSort fun a b => PySem.W.dataLe false encD (eJ a) (eJ b)).Pairwise fun a b => a.2.1 ≠ b.2.1 := by
    have := hnd
    unfold ends List.Nodup at this
    rwa [List.pairwise_map] at this
  refine h2.imp fun {a b} hab => ?_
  have hd : ∀ j : J4, dep (eJ j) ≤ 1 := fun j => by simp [eJ, dep, deps]
  unfold eqS
  rw [toD_eJ, toD_eJ]
  have hm : min (dep (eJ a)) (dep (eJ b)) ≤ 60 := by have := hd a; omega
  simp only [if_pos hm, dJ]
  have he : PyData.eqv (.str a.2.1) (.str b.2.1) = false := by rw [eqv_str]; simp [hab]
  simp [PyData.eqv, PyData.eqvAll] at he ⊢
  intro _ h2
  exact absurd h2 he
theorem other {sp : List Str} (h : sp.Nodup) (hl : 1 < sp.length) (b : Str) : 0 < (sp.filter fun x => decide (x ≠ b)).length := by
  match sp, hl with
  | x :: y :: t, _ =>
    have hxy : x ≠ y := by
      rintro rfl
      simp at h
    refine List.length_pos_iff.mpr fun e => ?_
    have hx : ∀ z ∈ (x :: y :: t), z = b := fun z hz => by
      by_cases hzb : z = b
      · exact hzb
      · have : z ∈ (x :: y :: t).filter fun x => decide (x ≠ b) := by simp only [List.mem_filter]; exact ⟨hz, by simp [hzb]⟩
        rw [e] at this
        simp at this
    exact hxy ((hx x (by simp)).trans (hx y (by simp)).symm)
end Sn.Lk08
namespace Sn.Lk08
open PySem PySem.Spec PyProof.Rows L2
variable {pre : Mu}
theorem str_at {sp : List Str} {d : Nat} (h : d < sp.length) : itemS (.lst (sp.map .str)) (.int (d : Nat)) = some (.str sp[d]) := by
  show atI _ _ = _
  rw [at_gen (by simpa using h)]
  simp
theorem d_eN (m : Mu) (es : List Str) : drf m (eN es) = eN es := rfl
abbrev jR (pre : Mu) (es : List Str) (mn gr : Int) (n0 : Nat) (sp : List Str) (x6 x7 x8 x9 x10 : Option PV) : Rho := [some (.loc pre.length), some (eN es), some (.int mn), some (.int gr), some (.loc n0), some (.lst (sp.map .str)), x6, x7, x8, x9, x10]
theorem spare_walk {Φ : FEnv} {m : Mu} {es sp : List Str} {mn gr : Int} {n0 : Nat} {b : Str} {x6 x8 x9 x10 : Option PV} : collect (stepC Φ (.nm 10) [10] (.pr (.cmp .NotEq) (.cons false (.nm 10) (.cons false (.nm 7) .nil))) (.nm 10) (jR pre es mn gr n0 sp x6 (some (.str b)) x8 x9 x10)) (keeps [] m) (sp.map .str) m = .ok ((sp.filter fun x => decide (x ≠ b)).map .str) m := by
  rw [collect_filter (g := id) (c := fun p => match p with | .str x => decide (x ≠ b) | _ => false) (keeps_nil m m) fun y hy => ?_]
  · rw [List.map_id, List.filter_map]
    rfl
  · obtain ⟨x, hx, rfl⟩ := List.mem_map.mp hy
    by_cases hq : x = b <;> simp [stepC, bindT, wipeR, noX, ev_nm, ev_cst, ev_pr, ev_call, evs_cons, evs_nil, bnd_ok, boolR, prR, seesR, prS, oRes, d_str, d_bl, cmpS, eq_strs, hq]
theorem add_of {d1 d2 d3 : Nat} (h : d3 < 3) (h1 : d1 < 900) (h2 : d2 < 900) : ∃ z : Int, 0 ≤ z ∧ z < 900 ∧ itemS (.lst [.int 0, .int (d1 : Nat), .int (d2 : Nat)]) (.int (d3 : Nat)) = some (.int z) := by
  have : d3 = 0 ∨ d3 = 1 ∨ d3 = 2 := by omega
  rcases this with rfl | rfl | rfl
  · exact ⟨0, by omega, by omega, rfl⟩
  · exact ⟨d1, by omega, by omega, rfl⟩
  · exact ⟨d2, by omega, by omega, rfl⟩
def Pj (pre : Mu) (es : List Str) (mn gr : Int) (r : Mu) (M : Nat) (i : Nat) (ρ : Rho) (m : Mu) : Prop := ∃ (N : Nat) (sp : List Str) (js : List J4) (rk : Str → Nat) (x6 x7 x8 x9 x10 : Option PV), ρ = jR pre es mn gr (pre.length + (r.length + 1)) sp x6 x7 x8 x9 x10 ∧ Sk pre N (r ++ [.lst (js.map eJ)]) m ∧ N ≤ M + 8 * i ∧ js.length ≤ i ∧ sp.length ≤ 100 ∧ J0 es sp js rk
theorem p_law_jobs (k : Nat) {M : Nat} {r m : Mu} (h : Sk pre M r m) (hr : Cl (pre ++ r)) (es : List Str) (hes : es.Nodup) (hel : es.length ≤ 100) (n : Nat) (hn : n ≤ 3) (gr : Int) (hg : 0 < gr) (hg2 : gr < 900) (hM : M < 900000) : ∃ (js : List J4) (rk : Str → Nat) (m' : Mu), Lv T (k + 2) (PySem.Str.ofString "_law_jobs") [.loc pre.length, eN es, .int (n : Nat), .int gr] m = .ok (.tup true (js.map eJ)) m' ∧ Sk pre (M + 50) r m' ∧ Js es js rk := by
  have hlen := sk_len h
  have h1 := sk_new h (.lst [])
  rw [lv__law_jobs _ _ rfl, bl__law_jobs]
  suffices hh : Run (Lv T (k + 1)) _ (startR 11 [.loc pre.length, eN es, .int (n : Nat), .int gr]) m fun x => ∃ (js : List J4) (rk : Str → Nat) (o : MO) (m' : Mu), x = .rt (.tup true (js.map eJ)) m' ∧ Sk pre (M + 50) (r ++ [o]) m' ∧ Js es js rk by
    obtain ⟨js, rk, o, m', e, hs, hw⟩ := hh
    obtain ⟨m2, e2, hs2⟩ := sk_fin (g := true) (xs := js.map eJ) hs hr (sk_len h) (lbs_map (fun _ => by simp [eJ, lb, lbs]) js)
    refine ⟨js, rk, m2, ?_, hs2, hw⟩
    rw [e]
    simp only [exitS, Bool.false_eq_true, if_false]
    exact e2
  refine run_nx (jR pre es (n : Nat) gr (pre.length + (r.length + 1)) es none none none none none) (m ++ [.lst []]) ?_ ?_
  · simp [exs, ex, evT, ev_nm, ev_cst, ev_pr, ev_and, ev_or, ev_ite, ev_call, evs_nil, evs_cons, evs_star, ev_comp, ev_dcomp, evw_seq, evw_zip, evw_rngK, startR, bnd_ok, go_ok, seq_nx, seq_rt, exitS, prR, seesR, d_non, d_bl, d_int, d_str, d_tup, d_lst, d_scr, d_dct, d_ty, prS, bltS, tyS, boolR, oRes, oWd, walkS, fin, kit1, kit2, kit3, kit4, lenS, lim, sizeLine_eq, cmpS, bindT, setAll, ev_thw, hlen, eN, itemsS]
  refine run_for (m1 := m ++ [MO.lst []]) (xs := (List.range n).map fun k => PV.int (k : Nat)) (ws := []) (Pj pre es (n : Nat) gr r M) ?_ (fun _ _ _ _ => keeps_nil _ _) ⟨M, es, [], fun _ => 0, none, none, none, none, none, rfl, h1, by omega, by simp, hel, ⟨hes, fun _ h => h, by simp [ends], by simp, by simp, by simp [ends], by simp, fun _ _ => rfl⟩⟩ ?_ ?_
  · have hrng := rng_nat (n := n) (by omega) (m ++ [.lst []])
    simp [exs, ex, evT, ev_nm, ev_cst, ev_pr, ev_and, ev_or, ev_ite, ev_call, evs_nil, evs_cons, evs_star, ev_comp, ev_dcomp, evw_seq, evw_zip, evw_rngK, startR, bnd_ok, go_ok, seq_nx, seq_rt, exitS, prR, seesR, d_non, d_bl, d_int, d_str, d_tup, d_lst, d_scr, d_dct, d_ty, prS, bltS, tyS, boolR, oRes, oWd, walkS, fin, kit1, kit2, kit3, kit4, lenS, lim, sizeLine_eq, cmpS, bindT, setAll, hrng]
  · rintro j x hx ρ m ⟨N, sp, js, rk, x6, x7, x8, x9, x10, rfl, hs, hN, hj, hsl, hw⟩
    have hjn : j < n := by
      have := (List.getElem?_eq_some_iff.mp hx).1
      simpa using this
    refine ⟨_, rfl, ?_⟩
    refine run_or (fun ρ' m' => Pj pre es (n : Nat) gr r M (j + 1) ρ' m') ?_ fun ρ' m' hp => run_nil ⟨ρ', m', rfl, hp⟩
    by_cases hl1 : 1 < sp.length
    · have hl1' : (1 : Int) < (sp.length : Nat) := by omega
      obtain ⟨d1, m1, e1, hd1, h1⟩ := sk_dip k hs 4 (by omega) (by omega) (by omega)
      by_cases hd0 : 0 < d1
      · have hd0' : (0 : Int) < (d1 : Nat) := by omega
        obtain ⟨d2, m2, e2, hd2, h2⟩ := sk_dip k h1 (sp.length : Nat) (by omega) (by omega) (by omega)
        have hd2' : d2 < sp.length := by omega
        have hpos := other hw.nd hl1 sp[d2]
        have hsl2 : (sp.filter fun x => decide (x ≠ sp[d2])).length ≤ sp.length := List.length_filter_le _ _
        obtain ⟨d3, m3, e3, hd3, h3⟩ := sk_dip k h2 ((sp.filter fun x => decide (x ≠ sp[d2])).length : Nat) (by omega) (by omega) (by omega)
        have hd3' : d3 < (sp.filter fun x => decide (x ≠ sp[d2])).length := by omega
        obtain ⟨d4, m4, e4, hd4, h4⟩ := sk_dip k h3 gr hg (by omega) (by omega)
        obtain ⟨d5, m5, e5, hd5, h5⟩ := sk_dip k h4 3 (by omega) (by omega) (by omega)
        obtain ⟨d6, m6, e6, hd6, h6⟩ := sk_dip k h5 gr hg (by omega) (by omega)
        obtain ⟨d7, m7, e7, hd7, h7⟩ := sk_dip k h6 3 (by omega) (by omega) (by omega)
        obtain ⟨z, hz, hz9, ez⟩ := add_of (d1 := d5) (d2 := d6) (d3 := d7) (by omega) (by omega) (by omega)
        obtain ⟨rk', hw'⟩ := j0_add hw (a := (sp.filter fun x => decide (x ≠ sp[d2]))[d3]) (b := sp[d2]) (lo := 1 + (d4 : Int)) (hi := 1 + (d4 : Int) + z) (List.getElem_mem hd2') (List.getElem_mem hd3') (by omega) (by omega) (by omega)
        obtain ⟨hil, m8, e8, h8⟩ := sk_app h7 (by rw [List.length_map]; omega) (eJ ((sp.filter fun x => decide (x ≠ sp[d2]))[d3], sp[d2], 1 + (d4 : Int), 1 + (d4 : Int) + z))
        have hsp : sp.length ≤ 16777216 := by omega
        have hw1 := spare_walk (pre := pre) (Φ := Lv T (k + 1)) (m := m2) (es := es) (sp := sp) (mn := (n : Nat)) (gr := gr) (n0 := pre.length + (r.length + 1)) (b := sp[d2]) (x6 := some x) (x8 := x8) (x9 := x9) (x10 := x10)
        have hat2 := str_at hd2'
        have hat3 := str_at hd3'
        generalize hsb : (sp.filter fun x => decide (x ≠ sp[d2])) = sp' at *
        generalize hbb : sp[d2] = b at *
        generalize haa : sp'[d3] = a at *
        refine .inr ⟨m1, ?_, ?_⟩
        · simp [exs, ex, evT, ev_nm, ev_cst, ev_pr, ev_and, ev_or, ev_ite, ev_call, evs_nil, evs_cons, evs_star, ev_comp, ev_dcomp, evw_seq, evw_zip, evw_rngK, startR, bnd_ok, go_ok, seq_nx, seq_rt, exitS, prR, seesR, d_non, d_bl, d_int, d_str, d_tup, d_lst, d_scr, d_dct, d_ty, prS, bltS, tyS, boolR, oRes, oWd, walkS, fin, kit1, kit2, kit3, kit4, lenS, lim, sizeLine_eq, cmpS, bindT, setAll, ltS, hl1, hl1', e1, hd0, hd0']
        refine run_nx (jR pre es (n : Nat) gr (pre.length + (r.length + 1)) sp (some x) (some (.str b)) x8 x9 x10) m2 ?_ ?_
        · simp [exs, ex, evT, ev_nm, ev_cst, ev_pr, ev_and, ev_or, ev_ite, ev_call, evs_nil, evs_cons, evs_star, ev_comp, ev_dcomp, evw_seq, evw_zip, evw_rngK, startR, bnd_ok, go_ok, seq_nx, seq_rt, exitS, prR, seesR, d_non, d_bl, d_int, d_str, d_tup, d_lst, d_scr, d_dct, d_ty, prS, bltS, tyS, boolR, oRes, oWd, walkS, fin, kit1, kit2, kit3, kit4, lenS, lim, sizeLine_eq, cmpS, bindT, setAll, e2, hat2]
        refine run_nx (jR pre es (n : Nat) gr (pre.length + (r.length + 1)) sp' (some x) (some (.str b)) x8 x9 x10) m2 ?_ ?_
        · rw [ex]
          simp [exs, ex, evT, ev_nm, ev_cst, ev_pr, ev_and, ev_or, ev_ite, ev_call, evs_nil, evs_cons, evs_star, ev_comp, ev_dcomp, evw_seq, evw_zip, evw_rngK, startR, bnd_ok, go_ok, seq_nx, seq_rt, exitS, prR, seesR, d_non, d_bl, d_int, d_str, d_tup, d_lst, d_scr, d_dct, d_ty, prS, bltS, tyS, boolR, oRes, oWd, walkS, fin, kit1, kit2, kit3, kit4, lenS, lim, sizeLine_eq, cmpS, bindT, setAll, hsp, hw1]
        refine run_nx (jR pre es (n : Nat) gr (pre.length + (r.length + 1)) sp' (some x) (some (.str b)) (some (.str a)) x9 x10) m3 ?_ ?_
        · simp [exs, ex, evT, ev_nm, ev_cst, ev_pr, ev_and, ev_or, ev_ite, ev_call, evs_nil, evs_cons, evs_star, ev_comp, ev_dcomp, evw_seq, evw_zip, evw_rngK, startR, bnd_ok, go_ok, seq_nx, seq_rt, exitS, prR, seesR, d_non, d_bl, d_int, d_str, d_tup, d_lst, d_scr, d_dct, d_ty, prS, bltS, tyS, boolR, oRes, oWd, walkS, fin, kit1, kit2, kit3, kit4, lenS, lim, sizeLine_eq, cmpS, bindT, setAll, e3, hat3]
        refine run_nx (jR pre es (n : Nat) gr (pre.length + (r.length + 1)) sp' (some x) (some (.str b)) (some (.str a)) (some (.int (1 + (d4 : Int)))) x10) m4 ?_ ?_
        · simp [exs, ex, evT, ev_nm, ev_cst, ev_pr, ev_and, ev_or, ev_ite, ev_call, evs_nil, evs_cons, evs_star, ev_comp, ev_dcomp, evw_seq, evw_zip, evw_rngK, startR, bnd_ok, go_ok, seq_nx, seq_rt, exitS, prR, seesR, d_non, d_bl, d_int, d_str, d_tup, d_lst, d_scr, d_dct, d_ty, prS, bltS, tyS, boolR, oRes, oWd, walkS, fin, kit1, kit2, kit3, kit4, lenS, lim, sizeLine_eq, cmpS, bindT, setAll, e4, binS]
        refine run_nx (jR pre es (n : Nat) gr (pre.length + (r.length + 1)) sp' (some x) (some (.str b)) (some (.str a)) (some (.int (1 + (d4 : Int)))) x10) m8 ?_ (run_nil ⟨_, _, rfl, _, sp', _, rk', _, _, _, _, _, rfl, by rw [List.map_append]; exact h8, by omega, by simp; omega, by omega, hw'⟩)
        have hil4 : isLo (.loc (pre.length + (r.length + 1))) m4 = true := (sk_app h4 (by rw [List.length_map]; omega) .non).1
        simp only [eJ] at e8
        have hil0 : ∀ {N : Nat} {m : Mu}, Sk pre N (r ++ [.lst (js.map eJ)]) m → isLo (.loc (pre.length + (r.length + 1))) m = true := fun h => (sk_app h (by rw [List.length_map]; omega) .non).1
        simp [exs, ex, evT, ev_nm, ev_cst, ev_pr, ev_and, ev_or, ev_ite, ev_call, evs_nil, evs_cons, evs_star, ev_comp, ev_dcomp, evw_seq, evw_zip, evw_rngK, startR, bnd_ok, go_ok, seq_nx, seq_rt, exitS, prR, seesR, d_non, d_bl, d_int, d_str, d_tup, d_lst, d_scr, d_dct, d_ty, prS, bltS, tyS, boolR, oRes, oWd, walkS, fin, kit1, kit2, kit3, kit4, lenS, lim, sizeLine_eq, cmpS, bindT, setAll, hil4, e5, e6, e7, ez, binS, e8]
      · have hd0' : ¬ (0 : Int) < (d1 : Nat) := by omega
        refine .inl ⟨m1, ?_, run_nil ⟨_, _, rfl, _, _, _, _, _, _, _, _, _, rfl, h1, by omega, by omega, hsl, hw⟩⟩
        simp [exs, ex, evT, ev_nm, ev_cst, ev_pr, ev_and, ev_or, ev_ite, ev_call, evs_nil, evs_cons, evs_star, ev_comp, ev_dcomp, evw_seq, evw_zip, evw_rngK, startR, bnd_ok, go_ok, seq_nx, seq_rt, exitS, prR, seesR, d_non, d_bl, d_int, d_str, d_tup, d_lst, d_scr, d_dct, d_ty, prS, bltS, tyS, boolR, oRes, oWd, walkS, fin, kit1, kit2, kit3, kit4, lenS, lim, sizeLine_eq, cmpS, bindT, setAll, ltS, hl1, hl1', e1, hd0, hd0']
    · have hl1' : ¬ (1 : Int) < (sp.length : Nat) := by omega
      refine .inl ⟨m, ?_, run_nil ⟨_, _, rfl, _, _, _, _, _, _, _, _, _, rfl, hs, by omega, by omega, hsl, hw⟩⟩
      simp [exs, ex, evT, ev_nm, ev_cst, ev_pr, ev_and, ev_or, ev_ite, ev_call, evs_nil, evs_cons, evs_star, ev_comp, ev_dcomp, evw_seq, evw_zip, evw_rngK, startR, bnd_ok, go_ok, seq_nx, seq_rt, exitS, prR, seesR, d_non, d_bl, d_int, d_str, d_tup, d_lst, d_scr, d_dct, d_ty, prS, bltS, tyS, boolR, oRes, oWd, walkS, fin, kit1, kit2, kit3, kit4, lenS, lim, sizeLine_eq, cmpS, bindT, setAll, ltS, hl1, hl1']
  · rintro ρ' m' ⟨N, sp, js, rk, x6, x7, x8, x9, x10, rfl, hs, hN, hj, hsl, hw⟩
    rw [List.length_map, List.length_range] at hN hj
    obtain ⟨js', e, hjs⟩ := j0_sort hw (by omega)
    refine run_ret (p := .tup true (js'.map eJ)) (m' := m') ?_ ⟨js', rk, _, m', rfl, hs.mono (by omega), hjs⟩
    have hdr := sk_drf hs
    simp [exs, ex, evT, ev_nm, ev_cst, ev_pr, ev_and, ev_or, ev_ite, ev_call, evs_nil, evs_cons, evs_star, ev_comp, ev_dcomp, evw_seq, evw_zip, evw_rngK, startR, bnd_ok, go_ok, seq_nx, seq_rt, exitS, prR, seesR, d_non, d_bl, d_int, d_str, d_tup, d_lst, d_scr, d_dct, d_ty, prS, bltS, tyS, boolR, oRes, oWd, walkS, fin, kit1, kit2, kit3, kit4, lenS, lim, sizeLine_eq, cmpS, bindT, setAll, hdr, itemsS, e, lsS]
end Sn.Lk08
namespace Sn.Lk08
open PySem PySem.Spec PyProof.Rows L2
variable {pre : Mu}
/-! ### titles: a beginning, unlike letters, a rest -/
structure Wt (fs : List Nat) (sp : Nat) (ws : List (List Nat)) : Prop where
  pw : ws.Pairwise (· < ·)
  ok : ∀ w ∈ ws, Okw w ∧ w ≠ [103, 111]
  hd : ∀ wl, ws.getLast? = some wl → ∃ j t, wl = fs ++ (97 + (sp + j)) :: t ∧ j < ws.length
structure Nt (fs : List Nat) (sp : Nat) (ws : List (List Nat)) (w : List Nat) : Prop where
  ok : Okw w
  lt : ∀ wl, ws.getLast? = some wl → wl < w
  hd : ∃ j t, w = fs ++ (97 + (sp + j)) :: t ∧ j ≤ ws.length
theorem nt_fresh {fs : List Nat} {sp : Nat} {ws : List (List Nat)} {u : List Nat} (h : Wt fs sp ws) (hf : ∀ c ∈ fs, okc c) (hs : sp + ws.length < 26) (hu : ∀ c ∈ u, okc c) (hl : fs.length + 1 + u.length ≤ 8) : Nt fs sp ws (fs ++ (97 + (sp + ws.length)) :: u) where
  ok := ⟨fun c hc => by
    rcases List.mem_append.mp hc with hc | hc
    · exact hf c hc
    · rcases List.mem_cons.mp hc with rfl | hc
      · unfold okc; omega
      · exact hu c hc, by simp, by simp; omega⟩
  lt := fun wl e => by
    obtain ⟨j, t, rfl, hj⟩ := h.hd wl e
    exact lt_pre fs (List.cons_lt_cons_iff.mpr (.inl (by omega)))
  hd := ⟨ws.length, u, rfl, Nat.le_refl _⟩
theorem nt_app {fs : List Nat} {sp c : Nat} {ws : List (List Nat)} {wl : List Nat} (h : Wt fs sp ws) (e : ws.getLast? = some wl) (hl : wl.length < 8) (hc : okc c) : Nt fs sp ws (wl ++ [c]) where
  ok := ⟨fun x hx => by
    rcases List.mem_append.mp hx with hx | hx
    · exact (h.ok wl (List.mem_of_getLast? e)).1.let_ x hx
    · rw [List.mem_singleton.mp hx]; exact hc, by simp, by simp; omega⟩
  lt := fun w e2 => by
    rw [e] at e2
    cases e2
    exact lt_app wl c
  hd := by
    obtain ⟨j, t, rfl, hj⟩ := h.hd wl e
    exact ⟨j, t ++ [c], by simp, by omega⟩
theorem wt_add {fs : List Nat} {sp : Nat} {ws : List (List Nat)} {w : List Nat} (h : Wt fs sp ws) (n : Nt fs sp ws w) : Wt fs sp (ws ++ [fixN w]) := by
  have hge : w = fixN w ∨ w < fixN w := by
    unfold fixN
    split
    · rename_i e
      subst e
      exact .inr (by decide)
    · exact .inl rfl
  have hok : Okw (fixN w) ∧ fixN w ≠ [103, 111] := by
    unfold fixN
    split
    · refine ⟨⟨?_, by simp, by simp⟩, by simp⟩
      intro c hc
      simp at hc
      unfold okc
      omega
    · rename_i e
      exact ⟨n.ok, e⟩
  refine ⟨List.pairwise_append.mpr ⟨h.pw, by simp, fun a ha b hb => ?_⟩, fun x hx => ?_, fun wl e => ?_⟩
  · rw [List.mem_singleton.mp hb]
    have hlt : a < w := by
      cases e : ws.getLast? with
      | none =>
        rw [List.getLast?_eq_none_iff] at e
        rw [e] at ha
        simp at ha
      | some wl =>
        rcases last_max h.pw e a ha with rfl | h1
        · exact n.lt _ e
        · exact List.lt_trans h1 (n.lt _ e)
    rcases hge with e | e
    · rw [← e]; exact hlt
    · exact List.lt_trans hlt e
  · rcases List.mem_append.mp hx with hx | hx
    · exact h.ok x hx
    · rw [List.mem_singleton.mp hx]; exact hok
  · rw [List.getLast?_concat] at e
    cases e
    obtain ⟨j, t, e, hj⟩ := n.hd
    rw [List.length_append, List.length_singleton]
    unfold fixN
    split
    · rename_i e2
      rw [e2] at e
      match fs, e with
      | [], e =>
        simp at e
        exact ⟨j, [111, 110, 101], by simp [e.1], by omega⟩
      | [x], e =>
        simp at e
        exact ⟨j, [110, 101], by simp [e.1, e.2.1], by omega⟩
      | x :: y :: r, e => simp at e
    · exact ⟨j, t, e, by omega⟩
theorem wt_ws {fs : List Nat} {sp : Nat} {ws : List (List Nat)} (h : Wt fs sp ws) : (∀ e ∈ ws.map SX.S, Nm e) ∧ Asc ((ws.map SX.S).map .str) ∧ (ws.map SX.S).Nodup := by
  refine ⟨fun e he => ?_, ?_, ?_⟩
  · obtain ⟨w, hw, rfl⟩ := List.mem_map.mp he
    obtain ⟨h1, h2⟩ := h.ok w hw
    refine ⟨?_, ?_, by rw [SX.S_len]; exact h1.len, h1.let_⟩
    · rw [nil_S]
      exact fun e => h1.ne (SX.S_inj e)
    · rw [go_S]
      exact fun e => h2 (SX.S_inj e)
  · unfold Asc
    rw [List.map_map]
    refine List.Pairwise.map _ (fun a b hab => ⟨?_, ?_⟩) h.pw
    · rw [PySem.W.dataLe_eq]
      simp only [Function.comp, cond_false, encD, toD, Option.getD_some, PySem.W.dataLt_str]
      have : ¬ b < a := List.lt_asymm hab
      simp [this]
    · simp only [Function.comp, eq_strs]
      have : SX.S a ≠ SX.S b := fun e => by
        rw [SX.S_inj e] at hab
        exact List.lt_irrefl _ hab
      simp [this]
  · refine List.Pairwise.map _ (fun a b hab e => ?_) h.pw
    rw [SX.S_inj e] at hab
    exact List.lt_irrefl _ hab
theorem eN_W (ws : List (List Nat)) : PV.tup true (ws.map eW) = eN (ws.map SX.S) := by
  unfold eN
  rw [List.map_map]
  rfl
end Sn.Lk08
namespace Sn.Lk08
open PySem PySem.Spec PyProof.Rows L2
variable {pre : Mu}
theorem walk_chars {f : PV → Mu → Res (List PV)} {ok : Mu → Prop} {r : Mu} (hok : ∀ m, ok m) (step : ∀ (N : Nat) (m : Mu) (x : PV), Sk pre N r m → N < 1000000 → ∃ c m', f x m = .ok [eW [c]] m' ∧ okc c ∧ Sk pre (N + 1) r m') : ∀ (xs : List PV) (N : Nat) (m : Mu), Sk pre N r m → N + xs.length < 1000000 →
    ∃ (u : List Nat) (m' : Mu), collect f ok xs m = .ok (u.map fun c => eW [c]) m' ∧ u.length = xs.length ∧ (∀ c ∈ u, okc c) ∧ Sk pre (N + xs.length) r m'
  | [], N, m, h, _ => ⟨[], m, by rw [collect_nil (hok m)]; rfl, rfl, by simp, h⟩
  | x :: xs, N, m, h, hN => by
    rw [List.length_cons] at hN
    obtain ⟨c, m1, e1, hc, h1⟩ := step N m x h (by omega)
    obtain ⟨u, m2, e2, l, ok2, h2⟩ := walk_chars hok step xs (N + 1) m1 h1 (by omega)
    refine ⟨c :: u, m2, ?_, by simp [l], fun d hd => ?_, by rw [List.length_cons, show N + (xs.length + 1) = N + 1 + xs.length by omega]; exact h2⟩
    · rw [collect_cons (hok m), e1]
      simp only [bnd_ok]
      rw [e2]
      simp only [bnd_ok]
      rfl
    · rcases List.mem_cons.mp hd with rfl | hd
      · exact hc
      · exact ok2 d hd
abbrev tR (pre : Mu) (x1 x3 x4 x5 x6 x7 x8 x9 x10 x11 x12 : Option PV) : Rho := [some (.loc pre.length), x1, some Ltr, x3, x4, x5, x6, x7, x8, x9, x10, x11, x12]
/-- a text of so many drawn letters -/
theorem text_ev (k : Nat) {N n : Nat} {r m m0 : Mu} {it : Ex} (h : Sk pre N r m) (hn : n ≤ 50) (hN : N + n < 1000000) {x1 x3 x4 x5 x6 x7 x8 x9 x10 x11 x12 : Option PV} (hit : ev (Lv T (k + 1)) it (tR pre x1 x3 x4 x5 x6 x7 x8 x9 x10 x11 x12) m0 = .ok (.int (n : Nat)) m) : ∃ (u : List Nat) (m' : Mu), ev (Lv T (k + 1)) (.pr (.mth .join) (.cons false (.cst (.str (PySem.Str.ofString ""))) (.cons false (.comp (.nm 6) (.rng it) [6] (.cst (.bl true)) (.pr .item (.cons false (.nm 2) (.cons false (.call (PySem.Str.ofString "_law_dip") (.cons false (.nm 0) (.cons false (.cst (.int 26)) .nil))) .nil)))) .nil))) (tR pre x1 x3 x4 x5 x6 x7 x8 x9 x10 x11 x12) m0 = .ok (eW u) m' ∧ u.length = n ∧ (∀ c ∈ u, okc c) ∧ Sk pre (N + n) r m' := by
  obtain ⟨u, m', e, l, ok, h2⟩ := walk_chars (pre := pre) (f := stepC (Lv T (k + 1)) (.nm 6) [6] (.cst (.bl true)) (.pr .item (.cons false (.nm 2) (.cons false (.call (PySem.Str.ofString "_law_dip") (.cons false (.nm 0) (.cons false (.cst (.int 26)) .nil))) .nil))) (tR pre x1 x3 x4 x5 x6 x7 x8 x9 x10 x11 x12)) (ok := keeps [] m) (r := r) (fun m' => keeps_nil _ _) (fun N m x hs hN => by
    obtain ⟨d, m', e, hd, hs'⟩ := sk_dip k hs 26 (by omega) (by omega) hN
    have hd2 : d < 26 := by omega
    refine ⟨97 + d, m', ?_, by unfold okc; omega, hs'⟩
    simp [stepC, bindT, wipeR, noX, ev_nm, ev_cst, ev_pr, ev_call, evs_cons, evs_nil, bnd_ok, boolR, prR, seesR, prS, oRes, d_Ltr, d_int, e, it_Ltr hd2]) ((List.range n).map fun k => PV.int (k : Nat)) N m h (by simpa using hN)
  rw [List.length_map, List.length_range] at l h2
  refine ⟨u, m', ?_, l, ok, h2⟩
  have hrng := rng_nat (n := n) (by omega) m
  have hz : n ≤ 16777216 := by omega
  rw [ev_pr, evs_cons, ev_cst]
  simp only [bnd_ok]
  rw [evs_cons, ev_comp, evw_rngK, hit]
  simp only [bnd_ok, hrng, List.length_map, List.length_range, sizeLine_eq, if_pos hz, e]
  simp [evs_nil, bnd_ok, prR, seesR, prS, oRes, d_str, d_lst, join_eW (u := u) (by omega)]
theorem size4 {d1 d2 : Nat} {L : Nat} (hL : 1 < L) (h1 : d1 < L) (h2 : d2 < 4) : ∃ n : Nat, n < L ∧ itemS (.lst [.int 0, .int 0, .int 1, .int d1]) (.int (d2 : Nat)) = some (.int (n : Nat)) := by
  have : d2 = 0 ∨ d2 = 1 ∨ d2 = 2 ∨ d2 = 3 := by omega
  rcases this with rfl | rfl | rfl | rfl
  · exact ⟨0, by omega, rfl⟩
  · exact ⟨0, by omega, rfl⟩
  · exact ⟨1, by omega, rfl⟩
  · exact ⟨d1, by omega, rfl⟩
def Pw (pre : Mu) (mn : Int) (r : Mu) (sp : Nat) (fs su : List Nat) (b : Bool) (M : Nat) (i : Nat) (ρ : Rho) (m : Mu) : Prop := ∃ (N : Nat) (ws : List (List Nat)) (x6 x9 x10 x11 x12 : Option PV), ρ = tR pre (some (.int mn)) (some (.loc (pre.length + (r.length + 1)))) (some (.int (sp : Nat))) (some (eW fs)) x6 (some (eW su)) (some (.bl b)) x9 x10 x11 x12 ∧ Sk pre N (r ++ [.lst (ws.map eW)]) m ∧ N ≤ M + 20 * i ∧ ws.length = i ∧ Wt fs sp ws
theorem p_law_titles (k : Nat) {M : Nat} {r m : Mu} (h : Sk pre M r m) (hr : Cl (pre ++ r)) (n : Nat) (hn : n ≤ 7) (hM : M < 900000) : ∃ (ws : List (List Nat)) (m' : Mu), Lv T (k + 2) (PySem.Str.ofString "_law_titles") [.loc pre.length, .int (n : Nat)] m = .ok (.tup true (ws.map eW)) m' ∧ Sk pre (M + 170) r m' ∧ ((∀ e ∈ ws.map SX.S, Nm e) ∧ Asc ((ws.map SX.S).map .str) ∧ (ws.map SX.S).Nodup) ∧ ws.length = n := by
  have hlen := sk_len h
  rw [lv__law_titles _ _ rfl, bl__law_titles]
  suffices hh : Run (Lv T (k + 1)) _ (startR 13 [.loc pre.length, .int (n : Nat)]) m fun x => ∃ (ws : List (List Nat)) (m' : Mu) (fs : List Nat) (sp : Nat), x = .rt (.tup true (ws.map eW)) m' ∧ Sk pre (M + 170) (r ++ [.lst (ws.map eW)]) m' ∧ Wt fs sp ws ∧ ws.length = n by
    obtain ⟨ws, m', fs, sp, e, hs, hw, hl⟩ := hh
    obtain ⟨m2, e2, hs2⟩ := sk_fin (g := true) (xs := ws.map eW) hs hr (sk_len h) (lbs_map (fun _ => by simp [eW, lb]) ws)
    refine ⟨ws, m2, ?_, hs2, wt_ws hw, hl⟩
    rw [e]
    simp only [exitS, Bool.false_eq_true, if_false]
    exact e2
  have h0 := sk_new h (MO.lst [])
  refine run_nx (tR pre (some (.int (n : Nat))) (some (.loc (pre.length + (r.length + 1)))) none none none none none none none none none) (m ++ [.lst []]) ?_ ?_
  · simp [exs, ex, evT, ev_nm, ev_cst, ev_pr, ev_and, ev_or, ev_ite, ev_call, evs_nil, evs_cons, evs_star, ev_comp, ev_dcomp, evw_seq, evw_zip, evw_rngK, startR, bnd_ok, go_ok, seq_nx, seq_rt, exitS, prR, seesR, d_non, d_bl, d_int, d_str, d_tup, d_lst, d_scr, d_dct, d_ty, prS, bltS, tyS, boolR, oRes, oWd, walkS, fin, kit1, kit2, kit3, kit4, lenS, lim, sizeLine_eq, cmpS, bindT, setAll, ev_thw, hlen]
    rfl
  obtain ⟨sp, m1, e1, hsp, h1⟩ := sk_dip k h0 (27 - (n : Int)) (by omega) (by omega) (by omega)
  have hnil : PV.str (PySem.Str.ofString "") = eW [] := by rw [nil_S]; rfl
  refine run_nx (tR pre (some (.int (n : Nat))) (some (.loc (pre.length + (r.length + 1)))) (some (.int (sp : Nat))) (some (eW [])) none none none none none none none) m1 ?_ ?_
  · simp [exs, ex, evT, ev_nm, ev_cst, ev_pr, ev_and, ev_or, ev_ite, ev_call, evs_nil, evs_cons, evs_star, ev_comp, ev_dcomp, evw_seq, evw_zip, evw_rngK, startR, bnd_ok, go_ok, seq_nx, seq_rt, exitS, prR, seesR, d_non, d_bl, d_int, d_str, d_tup, d_lst, d_scr, d_dct, d_ty, prS, bltS, tyS, boolR, oRes, oWd, walkS, fin, kit1, kit2, kit3, kit4, lenS, lim, sizeLine_eq, cmpS, bindT, setAll, binS.eq_1, binS.eq_5, e1, hnil]
  refine run_or (fun ρ' m' => ∃ (N : Nat) (fs : List Nat) (x6 : Option PV), ρ' = tR pre (some (.int (n : Nat))) (some (.loc (pre.length + (r.length + 1)))) (some (.int (sp : Nat))) (some (eW fs)) x6 none none none none none none ∧ Sk pre N (r ++ [.lst []]) m' ∧ N ≤ M + 9 ∧ (∀ c ∈ fs, okc c) ∧ fs.length ≤ 6) ?_ ?_
  · obtain ⟨d2, m2, e2, hd2, h2⟩ := sk_dip k h1 2 (by omega) (by omega) (by omega)
    by_cases h0 : d2 = 0
    · obtain ⟨d3, m3, e3, hd3, h3⟩ := sk_dip k h2 6 (by omega) (by omega) (by omega)
      obtain ⟨u, m4, e4, hl, ho, h4⟩ := text_ev k (n := 1 + d3) (m0 := m2) (it := .pr (.bin .Add) (.cons false (.cst (.int 1)) (.cons false (.call (PySem.Str.ofString "_law_dip") (.cons false (.nm 0) (.cons false (.cst (.int 6)) .nil))) .nil))) h3 (by omega) (by omega) (x1 := some (.int (n : Nat))) (x3 := some (.loc (pre.length + (r.length + 1)))) (x4 := some (.int (sp : Nat))) (x5 := some (eW [])) (x6 := none) (x7 := none) (x8 := none) (x9 := none) (x10 := none) (x11 := none) (x12 := none) (by simp [exs, ex, evT, ev_nm, ev_cst, ev_pr, ev_and, ev_or, ev_ite, ev_call, evs_nil, evs_cons, evs_star, ev_comp, ev_dcomp, evw_seq, evw_zip, evw_rngK, startR, bnd_ok, go_ok, seq_nx, seq_rt, exitS, prR, seesR, d_non, d_bl, d_int, d_str, d_tup, d_lst, d_scr, d_dct, d_ty, prS, bltS, tyS, boolR, oRes, oWd, walkS, fin, kit1, kit2, kit3, kit4, lenS, lim, sizeLine_eq, cmpS, bindT, setAll, binS.eq_1, e3])
      refine .inr ⟨m2, ?_, run_nx (tR pre (some (.int (n : Nat))) (some (.loc (pre.length + (r.length + 1)))) (some (.int (sp : Nat))) (some (eW u)) none none none none none none none) m4 ?_ (run_nil ⟨_, _, rfl, _, u, _, rfl, h4, by omega, ho, by omega⟩)⟩
      · simp [exs, ex, evT, ev_nm, ev_cst, ev_pr, ev_and, ev_or, ev_ite, ev_call, evs_nil, evs_cons, evs_star, ev_comp, ev_dcomp, evw_seq, evw_zip, evw_rngK, startR, bnd_ok, go_ok, seq_nx, seq_rt, exitS, prR, seesR, d_non, d_bl, d_int, d_str, d_tup, d_lst, d_scr, d_dct, d_ty, prS, bltS, tyS, boolR, oRes, oWd, walkS, fin, kit1, kit2, kit3, kit4, lenS, lim, sizeLine_eq, cmpS, bindT, setAll, e2, eq_int, h0]
      · rw [ex, e4]
        simp only [go_ok, bindT]
        rfl
    · refine .inl ⟨m2, ?_, run_nil ⟨_, _, rfl, _, [], _, rfl, h2, by omega, by simp, by simp⟩⟩
      simp [exs, ex, evT, ev_nm, ev_cst, ev_pr, ev_and, ev_or, ev_ite, ev_call, evs_nil, evs_cons, evs_star, ev_comp, ev_dcomp, evw_seq, evw_zip, evw_rngK, startR, bnd_ok, go_ok, seq_nx, seq_rt, exitS, prR, seesR, d_non, d_bl, d_int, d_str, d_tup, d_lst, d_scr, d_dct, d_ty, prS, bltS, tyS, boolR, oRes, oWd, walkS, fin, kit1, kit2, kit3, kit4, lenS, lim, sizeLine_eq, cmpS, bindT, setAll, e2, eq_int, h0]
  rintro ρ' m2 ⟨N2, fs, x6, rfl, h2, hN2, hfo, hfl⟩
  have hlf := len_eW (w := fs) (by omega)
  obtain ⟨d3, m3, e3, hd3, h3⟩ := sk_dip k h2 (8 - (fs.length : Int)) (by omega) (by omega) (by omega)
  obtain ⟨su, m4, e4, hsl, hso, h4⟩ := text_ev k (n := d3) (m0 := m2) (it := .call (PySem.Str.ofString "_law_dip") (.cons false (.nm 0) (.cons false (.pr (.bin .Sub) (.cons false (.cst (.int 8)) (.cons false (.pr (.blt .len) (.cons false (.nm 5) .nil)) .nil))) .nil))) h3 (by omega) (by omega) (x1 := some (.int (n : Nat))) (x3 := some (.loc (pre.length + (r.length + 1)))) (x4 := some (.int (sp : Nat))) (x5 := some (eW fs)) (x6 := x6) (x7 := none) (x8 := none) (x9 := none) (x10 := none) (x11 := none) (x12 := none) (by simp [exs, ex, evT, ev_nm, ev_cst, ev_pr, ev_and, ev_or, ev_ite, ev_call, evs_nil, evs_cons, evs_star, ev_comp, ev_dcomp, evw_seq, evw_zip, evw_rngK, startR, bnd_ok, go_ok, seq_nx, seq_rt, exitS, prR, seesR, d_non, d_bl, d_int, d_str, d_tup, d_lst, d_scr, d_dct, d_ty, prS, bltS, tyS, boolR, oRes, oWd, walkS, fin, kit1, kit2, kit3, kit4, lim, sizeLine_eq, cmpS, bindT, setAll, d_eW, hlf, binS.eq_5, e3])
  refine run_nx (tR pre (some (.int (n : Nat))) (some (.loc (pre.length + (r.length + 1)))) (some (.int (sp : Nat))) (some (eW fs)) x6 (some (eW su)) none none none none none) m4 ?_ ?_
  · rw [ex, e4]
    simp only [go_ok, bindT]
    rfl
  obtain ⟨d5, m5, e5, hd5, h5⟩ := sk_dip k h4 2 (by omega) (by omega) (by omega)
  refine run_nx (tR pre (some (.int (n : Nat))) (some (.loc (pre.length + (r.length + 1)))) (some (.int (sp : Nat))) (some (eW fs)) x6 (some (eW su)) (some (.bl (decide ((d5 : Int) = 0)))) none none none none) m5 ?_ ?_
  · simp [exs, ex, evT, ev_nm, ev_cst, ev_pr, ev_and, ev_or, ev_ite, ev_call, evs_nil, evs_cons, evs_star, ev_comp, ev_dcomp, evw_seq, evw_zip, evw_rngK, startR, bnd_ok, go_ok, seq_nx, seq_rt, exitS, prR, seesR, d_non, d_bl, d_int, d_str, d_tup, d_lst, d_scr, d_dct, d_ty, prS, bltS, tyS, boolR, oRes, oWd, walkS, fin, kit1, kit2, kit3, kit4, lenS, lim, sizeLine_eq, cmpS, bindT, setAll, e5, eq_int]
  generalize hb : decide ((d5 : Int) = 0) = b
  refine run_for (m1 := m5) (xs := (List.range n).map fun k => PV.int (k : Nat)) (ws := []) (Pw pre (n : Nat) r sp fs su b (M + 25)) ?_ (fun _ _ _ _ => keeps_nil _ _) ⟨_, [], x6, none, none, none, none, rfl, h5, by omega, rfl, ⟨by simp, by simp, by simp⟩⟩ ?_ ?_
  · have hrng := rng_nat (n := n) (by omega) m5
    simp [exs, ex, evT, ev_nm, ev_cst, ev_pr, ev_and, ev_or, ev_ite, ev_call, evs_nil, evs_cons, evs_star, ev_comp, ev_dcomp, evw_seq, evw_zip, evw_rngK, startR, bnd_ok, go_ok, seq_nx, seq_rt, exitS, prR, seesR, d_non, d_bl, d_int, d_str, d_tup, d_lst, d_scr, d_dct, d_ty, prS, bltS, tyS, boolR, oRes, oWd, walkS, fin, kit1, kit2, kit3, kit4, lenS, lim, sizeLine_eq, cmpS, bindT, setAll, hrng]
  · rintro j x hx ρ m ⟨N, ws, x6, x9, x10, x11, x12, rfl, hs, hN, hj, hw⟩
    have hjn : j < n := by
      have := (List.getElem?_eq_some_iff.mp hx).1
      simpa using this
    have hxe : x = .int (j : Nat) := by
      rw [List.getElem?_map, List.getElem?_range hjn] at hx
      simpa using hx.symm
    subst hxe
    refine ⟨_, rfl, ?_⟩
    obtain ⟨d1, m1, e1, hd1, h1⟩ := sk_dip k hs (8 - (fs.length : Int)) (by omega) (by omega) (by omega)
    obtain ⟨d2, m2, e2, hd2, h2⟩ := sk_dip k h1 4 (by omega) (by omega) (by omega)
    obtain ⟨size, hsz, es⟩ := size4 (L := 8 - fs.length) (d1 := d1) (d2 := d2) (by omega) (by omega) (by omega)
    refine run_nx (tR pre (some (.int (n : Nat))) (some (.loc (pre.length + (r.length + 1)))) (some (.int (sp : Nat))) (some (eW fs)) x6 (some (eW su)) (some (.bl b)) (some (.int (j : Nat))) x10 (some (.int (size : Nat))) (some (eW su))) m2 ?_ ?_
    · simp [exs, ex, evT, ev_nm, ev_cst, ev_pr, ev_and, ev_or, ev_ite, ev_call, evs_nil, evs_cons, evs_star, ev_comp, ev_dcomp, evw_seq, evw_zip, evw_rngK, startR, bnd_ok, go_ok, seq_nx, seq_rt, exitS, prR, seesR, d_non, d_bl, d_int, d_str, d_tup, d_lst, d_scr, d_dct, d_ty, prS, bltS, tyS, boolR, oRes, oWd, walkS, fin, kit1, kit2, kit3, kit4, lim, sizeLine_eq, cmpS, bindT, setAll, d_eW, hlf, binS.eq_5, e1, e2, es]
    refine run_or (fun ρ' m' => ∃ (N' : Nat) (u : List Nat), ρ' = tR pre (some (.int (n : Nat))) (some (.loc (pre.length + (r.length + 1)))) (some (.int (sp : Nat))) (some (eW fs)) x6 (some (eW su)) (some (.bl b)) (some (.int (j : Nat))) x10 (some (.int (size : Nat))) (some (eW u)) ∧ Sk pre N' (r ++ [.lst (ws.map eW)]) m' ∧ N' ≤ N + 10 ∧ (∀ c ∈ u, okc c) ∧ fs.length + 1 + u.length ≤ 8) ?_ ?_
    · cases b with
      | true =>
        refine .inl ⟨m2, ?_, run_nil ⟨_, _, rfl, _, su, rfl, h2, by omega, hso, by omega⟩⟩
        simp [exs, ex, evT, ev_nm, ev_cst, ev_pr, ev_and, ev_or, ev_ite, ev_call, evs_nil, evs_cons, evs_star, ev_comp, ev_dcomp, evw_seq, evw_zip, evw_rngK, startR, bnd_ok, go_ok, seq_nx, seq_rt, exitS, prR, seesR, d_non, d_bl, d_int, d_str, d_tup, d_lst, d_scr, d_dct, d_ty, prS, bltS, tyS, boolR, oRes, oWd, walkS, fin, kit1, kit2, kit3, kit4, lenS, lim, sizeLine_eq, cmpS, bindT, setAll]
      | false =>
        obtain ⟨u, m3, e3, hul, huo, h3⟩ := text_ev k (n := size) (m0 := m2) (it := .nm 11) h2 (by omega) (by omega) (x1 := some (.int (n : Nat))) (x3 := some (.loc (pre.length + (r.length + 1)))) (x4 := some (.int (sp : Nat))) (x5 := some (eW fs)) (x6 := x6) (x7 := some (eW su)) (x8 := some (.bl false)) (x9 := some (.int (j : Nat))) (x10 := x10) (x11 := some (.int (size : Nat))) (x12 := some (eW su)) (by simp [exs, ex, evT, ev_nm, ev_cst, ev_pr, ev_and, ev_or, ev_ite, ev_call, evs_nil, evs_cons, evs_star, ev_comp, ev_dcomp, evw_seq, evw_zip, evw_rngK, startR, bnd_ok, go_ok, seq_nx, seq_rt, exitS, prR, seesR, d_non, d_bl, d_int, d_str, d_tup, d_lst, d_scr, d_dct, d_ty, prS, bltS, tyS, boolR, oRes, oWd, walkS, fin, kit1, kit2, kit3, kit4, lenS, lim, sizeLine_eq, cmpS, bindT, setAll])
        refine .inr ⟨m2, ?_, run_nx (tR pre (some (.int (n : Nat))) (some (.loc (pre.length + (r.length + 1)))) (some (.int (sp : Nat))) (some (eW fs)) x6 (some (eW su)) (some (.bl false)) (some (.int (j : Nat))) x10 (some (.int (size : Nat))) (some (eW u))) m3 ?_ (run_nil ⟨_, _, rfl, _, u, rfl, h3, by omega, huo, by omega⟩)⟩
        · simp [exs, ex, evT, ev_nm, ev_cst, ev_pr, ev_and, ev_or, ev_ite, ev_call, evs_nil, evs_cons, evs_star, ev_comp, ev_dcomp, evw_seq, evw_zip, evw_rngK, startR, bnd_ok, go_ok, seq_nx, seq_rt, exitS, prR, seesR, d_non, d_bl, d_int, d_str, d_tup, d_lst, d_scr, d_dct, d_ty, prS, bltS, tyS, boolR, oRes, oWd, walkS, fin, kit1, kit2, kit3, kit4, lenS, lim, sizeLine_eq, cmpS, bindT, setAll]
        · rw [ex, e3]
          simp only [go_ok, bindT]
          rfl
    rintro ρ' m3 ⟨N3, u, rfl, h3, hN3, huo, hul⟩
    have hnt := nt_fresh (u := u) hw hfo (by omega) huo hul
    rw [hj] at hnt
    refine run_nx (tR pre (some (.int (n : Nat))) (some (.loc (pre.length + (r.length + 1)))) (some (.int (sp : Nat))) (some (eW fs)) x6 (some (eW su)) (some (.bl b)) (some (.int (j : Nat))) (some (eW (fs ++ (97 + (sp + j)) :: u))) (some (.int (size : Nat))) (some (eW u))) m3 ?_ ?_
    · have hit : itemS Ltr (.int ((sp : Int) + (j : Int))) = some (eW [97 + (sp + j)]) := by
        have := it_Ltr (i := sp + j) (by omega)
        simpa using this
      have a1 := add_eW (a := fs) (b := [97 + (sp + j)]) (by simp; omega)
      have a2 := add_eW (a := fs ++ [97 + (sp + j)]) (b := u) (by simp; omega)
      rw [List.append_assoc, List.singleton_append] at a2
      simp [exs, ex, evT, ev_nm, ev_cst, ev_pr, ev_and, ev_or, ev_ite, ev_call, evs_nil, evs_cons, evs_star, ev_comp, ev_dcomp, evw_seq, evw_zip, evw_rngK, startR, bnd_ok, go_ok, seq_nx, seq_rt, exitS, prR, seesR, d_non, d_bl, d_int, d_str, d_tup, d_lst, d_scr, d_dct, d_ty, prS, bltS, tyS, boolR, oRes, oWd, walkS, fin, kit1, kit2, kit3, kit4, lenS, lim, sizeLine_eq, cmpS, bindT, setAll, d_Ltr, d_eW, binS.eq_1, hit, a1, a2]
    refine run_or (fun ρ' m' => ∃ (N' : Nat) (w : List Nat), ρ' = tR pre (some (.int (n : Nat))) (some (.loc (pre.length + (r.length + 1)))) (some (.int (sp : Nat))) (some (eW fs)) x6 (some (eW su)) (some (.bl b)) (some (.int (j : Nat))) (some (eW w)) (some (.int (size : Nat))) (some (eW u)) ∧ Sk pre N' (r ++ [.lst (ws.map eW)]) m' ∧ N' ≤ N + 13 ∧ Nt fs sp ws w) ?_ ?_
    · have hdr := sk_drf h3
      cases e : ws.getLast? with
      | none =>
        have hne : ws.isEmpty = true := by simpa using e
        refine .inl ⟨m3, ?_, run_nil ⟨_, _, rfl, _, _, rfl, h3, by omega, hnt⟩⟩
        simp [exs, ex, evT, ev_nm, ev_cst, ev_pr, ev_and, ev_or, ev_ite, ev_call, evs_nil, evs_cons, evs_star, ev_comp, ev_dcomp, evw_seq, evw_zip, evw_rngK, startR, bnd_ok, go_ok, seq_nx, seq_rt, exitS, prR, seesR, d_non, d_bl, d_int, d_str, d_tup, d_lst, d_scr, d_dct, d_ty, prS, bltS, tyS, boolR, oRes, oWd, walkS, fin, kit1, kit2, kit3, kit4, lenS, lim, sizeLine_eq, cmpS, bindT, setAll, hdr, ne_nil, hne]
      | some wl =>
        have hne : ws.isEmpty = false := by
          cases ws with
          | nil => cases e
          | cons _ _ => rfl
        have hwo := (hw.ok wl (List.mem_of_getLast? e)).1
        have hle := len_eW (w := wl) (by have := hwo.len; omega)
        by_cases hl8 : wl.length < 8
        · have hl8' : ((wl.length : Nat) : Int) < 8 := by omega
          obtain ⟨d4, m4, e4, hd4, h4⟩ := sk_dip k h3 8 (by omega) (by omega) (by omega)
          by_cases hd0 : d4 = 0
          · obtain ⟨d6, m6, e6, hd6, h6⟩ := sk_dip k h4 26 (by omega) (by omega) (by omega)
            have hdr4 := sk_drf h4
            refine .inr ⟨m4, ?_, run_nx (tR pre (some (.int (n : Nat))) (some (.loc (pre.length + (r.length + 1)))) (some (.int (sp : Nat))) (some (eW fs)) x6 (some (eW su)) (some (.bl b)) (some (.int (j : Nat))) (some (eW (wl ++ [97 + d6]))) (some (.int (size : Nat))) (some (eW u))) m6 ?_ (run_nil ⟨_, _, rfl, _, _, rfl, h6, by omega, nt_app hw e hl8 (by unfold okc; omega)⟩)⟩
            · simp [exs, ex, evT, ev_nm, ev_cst, ev_pr, ev_and, ev_or, ev_ite, ev_call, evs_nil, evs_cons, evs_star, ev_comp, ev_dcomp, evw_seq, evw_zip, evw_rngK, startR, bnd_ok, go_ok, seq_nx, seq_rt, exitS, prR, seesR, d_non, d_bl, d_int, d_str, d_tup, d_lst, d_scr, d_dct, d_ty, prS, bltS, tyS, boolR, oRes, oWd, walkS, fin, kit1, kit2, kit3, kit4, lim, sizeLine_eq, cmpS, bindT, setAll, hdr, ne_nil, hne, eq_int, last_it e, d_eW, hle, ltS, hl8, hl8', e4, hd0]
            · have hdr6 := sk_drf h6
              simp [exs, ex, evT, ev_nm, ev_cst, ev_pr, ev_and, ev_or, ev_ite, ev_call, evs_nil, evs_cons, evs_star, ev_comp, ev_dcomp, evw_seq, evw_zip, evw_rngK, startR, bnd_ok, go_ok, seq_nx, seq_rt, exitS, prR, seesR, d_non, d_bl, d_int, d_str, d_tup, d_lst, d_scr, d_dct, d_ty, prS, bltS, tyS, boolR, oRes, oWd, walkS, fin, kit1, kit2, kit3, kit4, lenS, lim, sizeLine_eq, cmpS, bindT, setAll, hdr4, hdr6, last_it e, d_eW, d_Ltr, e6, it_Ltr (i := d6) (by omega), add_eW (a := wl) (b := [97 + d6]) (by simp; omega)]
          · refine .inl ⟨m4, ?_, run_nil ⟨_, _, rfl, _, _, rfl, h4, by omega, hnt⟩⟩
            simp [exs, ex, evT, ev_nm, ev_cst, ev_pr, ev_and, ev_or, ev_ite, ev_call, evs_nil, evs_cons, evs_star, ev_comp, ev_dcomp, evw_seq, evw_zip, evw_rngK, startR, bnd_ok, go_ok, seq_nx, seq_rt, exitS, prR, seesR, d_non, d_bl, d_int, d_str, d_tup, d_lst, d_scr, d_dct, d_ty, prS, bltS, tyS, boolR, oRes, oWd, walkS, fin, kit1, kit2, kit3, kit4, lim, sizeLine_eq, cmpS, bindT, setAll, hdr, ne_nil, hne, eq_int, last_it e, d_eW, hle, ltS, hl8, hl8', e4, hd0]
        · have hl8' : ¬ ((wl.length : Nat) : Int) < 8 := by omega
          refine .inl ⟨m3, ?_, run_nil ⟨_, _, rfl, _, _, rfl, h3, by omega, hnt⟩⟩
          simp [exs, ex, evT, ev_nm, ev_cst, ev_pr, ev_and, ev_or, ev_ite, ev_call, evs_nil, evs_cons, evs_star, ev_comp, ev_dcomp, evw_seq, evw_zip, evw_rngK, startR, bnd_ok, go_ok, seq_nx, seq_rt, exitS, prR, seesR, d_non, d_bl, d_int, d_str, d_tup, d_lst, d_scr, d_dct, d_ty, prS, bltS, tyS, boolR, oRes, oWd, walkS, fin, kit1, kit2, kit3, kit4, lim, sizeLine_eq, cmpS, bindT, setAll, hdr, ne_nil, hne, eq_int, last_it e, d_eW, hle, ltS, hl8, hl8']
    rintro ρ' m7 ⟨N7, w7, rfl, h7, hN7, hw7⟩
    obtain ⟨hil, m8, e8, h8⟩ := sk_app h7 (by rw [List.length_map]; omega) (eW (fixN w7))
    refine run_nx (tR pre (some (.int (n : Nat))) (some (.loc (pre.length + (r.length + 1)))) (some (.int (sp : Nat))) (some (eW fs)) x6 (some (eW su)) (some (.bl b)) (some (.int (j : Nat))) (some (eW w7)) (some (.int (size : Nat))) (some (eW u))) m8 ?_ (run_nil ⟨_, _, rfl, N7, ws ++ [fixN w7], _, _, _, _, _, rfl, by rw [List.map_append]; exact h8, by omega, by simp [hj], wt_add hw hw7⟩)
    by_cases hg : w7 = [103, 111]
    · simp only [fixN, hg, if_true] at e8
      simp [exs, ex, evT, ev_nm, ev_cst, ev_pr, ev_and, ev_or, ev_ite, ev_call, evs_nil, evs_cons, evs_star, ev_comp, ev_dcomp, evw_seq, evw_zip, evw_rngK, startR, bnd_ok, go_ok, seq_nx, seq_rt, exitS, prR, seesR, d_non, d_bl, d_int, d_str, d_tup, d_lst, d_scr, d_dct, d_ty, prS, bltS, tyS, boolR, oRes, oWd, walkS, fin, kit1, kit2, kit3, kit4, lenS, lim, sizeLine_eq, cmpS, bindT, setAll, hil, d_eW, go_eW, gone_eW, eq_eW, hg, e8]
    · simp only [fixN, hg, if_false] at e8
      simp [exs, ex, evT, ev_nm, ev_cst, ev_pr, ev_and, ev_or, ev_ite, ev_call, evs_nil, evs_cons, evs_star, ev_comp, ev_dcomp, evw_seq, evw_zip, evw_rngK, startR, bnd_ok, go_ok, seq_nx, seq_rt, exitS, prR, seesR, d_non, d_bl, d_int, d_str, d_tup, d_lst, d_scr, d_dct, d_ty, prS, bltS, tyS, boolR, oRes, oWd, walkS, fin, kit1, kit2, kit3, kit4, lenS, lim, sizeLine_eq, cmpS, bindT, setAll, hil, d_eW, go_eW, gone_eW, eq_eW, hg, e8]
  · rintro ρ' m' ⟨N, ws, x6, x9, x10, x11, x12, rfl, hs, hN, hj, hw⟩
    rw [List.length_map, List.length_range] at hN hj
    refine run_ret (p := .tup true (ws.map eW)) (m' := m') ?_ ⟨ws, m', fs, sp, rfl, hs.mono (by omega), hw, hj⟩
    have hdr := sk_drf hs
    simp [exs, ex, evT, ev_nm, ev_cst, ev_pr, ev_and, ev_or, ev_ite, ev_call, evs_nil, evs_cons, evs_star, ev_comp, ev_dcomp, evw_seq, evw_zip, evw_rngK, startR, bnd_ok, go_ok, seq_nx, seq_rt, exitS, prR, seesR, d_non, d_bl, d_int, d_str, d_tup, d_lst, d_scr, d_dct, d_ty, prS, bltS, tyS, boolR, oRes, oWd, walkS, fin, kit1, kit2, kit3, kit4, lenS, lim, sizeLine_eq, cmpS, bindT, setAll, hdr, lsS]
end Sn.Lk08
namespace Sn.Lk08
open PySem PySem.Spec PyProof.Rows L2
variable {pre : Mu}
/-! ### bounds -/
abbrev P2 := Str × Str
def key (p : P2) : List Key := [.inr p.1, .inr p.2]
theorem key_inj {p q : P2} : key p = key q ↔ p = q := by
  constructor
  · intro h
    have h1 : (Sum.inr p.1 : Key) = .inr q.1 ∧ (Sum.inr p.2 : Key) = .inr q.2 := by simpa [key] using h
    have a1 := Sum.inr.inj h1.1
    have a2 := Sum.inr.inj h1.2
    exact Prod.ext a1 a2
  · rintro rfl
    rfl
def kD (ks : List P2) (vs : List Int) : PV := .dct (.t (ks.map key)) (vs.map .int)
def val (ks : List P2) (vs : List Int) (p : P2) : Int := ((ks.findIdx? fun k => decide (k = p)).bind (vs[·]?)).getD 0
theorem keyT_eK (p : P2) : keyT (eK p) = some (key p) := rfl
theorem find_key (p : P2) : ∀ ks : List P2, ((ks.map key).findIdx? fun k => decide (k = key p)) = ks.findIdx? fun k => decide (k = p)
  | [] => rfl
  | x :: r => by
    rw [List.map_cons, List.findIdx?_cons, List.findIdx?_cons, find_key p r]
    by_cases h : x = p
    · subst h
      simp
    · have : ¬ key x = key p := fun e => h (key_inj.mp e)
      simp [h, this]
theorem get_kD {p : P2} {ks : List P2} {vs : List Int} (h : p ∈ ks) (hl : vs.length = ks.length) : itemS (kD ks vs) (eK p) = some (.int (val ks vs p)) := by
  have hex : ∃ i, (ks.findIdx? fun k => decide (k = p)) = some i ∧ i < ks.length := by
    cases e : ks.findIdx? fun k => decide (k = p) with
    | none =>
      have := List.findIdx?_eq_none_iff.mp e p h
      simp at this
    | some i => exact ⟨i, rfl, (List.findIdx?_eq_some_iff_getElem.mp e).1⟩
  obtain ⟨i, e, hi⟩ := hex
  have hi' : i < vs.length := by omega
  unfold kD itemS DK.get DK.ix val
  simp only [keyT_eK, Option.map_some, find_key, e, Option.bind_some]
  simp [hi']
theorem put_kD {a : P2} {z : Int} {ks : List P2} {vs : List Int} (hn : ks.Nodup) (hl : vs.length = ks.length) : ∃ (ks' : List P2) (vs' : List Int), DK.put (.t (ks.map key)) (vs.map .int) (eK a) (.int z) = some (.t (ks'.map key), (vs' : List Int).map .int) ∧ ks'.Nodup ∧ vs'.length = ks'.length ∧ (∀ x ∈ ks', x ∈ ks ∨ x = a) ∧ ks'.length ≤ ks.length + 1 := by
  have hany : ((ks.map key).any fun k => decide (k = key a)) = decide (a ∈ ks) := by
    rw [List.any_map, Bool.eq_iff_iff]
    simp only [List.any_eq_true, decide_eq_true_eq, Function.comp, key_inj]
    constructor
    · rintro ⟨x, hx, rfl⟩
      exact hx
    · exact fun h => ⟨a, h, rfl⟩
  unfold DK.put
  simp only [keyT_eK, Option.map_some, hany]
  by_cases h : a ∈ ks
  · refine ⟨ks, List.zipWith (fun k x => if k = a then z else x) ks vs, ?_, hn, by rw [List.length_zipWith]; omega, fun x hx => .inl hx, by omega⟩
    simp only [h, decide_true, if_true]
    congr 2
    clear hany h hn hl
    induction ks generalizing vs with
    | nil => rfl
    | cons k r ih =>
      cases vs with
      | nil => rfl
      | cons v vr =>
        simp only [List.map_cons, List.zipWith_cons_cons, ih]
        congr 1
        by_cases hk : k = a
        · subst hk
          simp
        · have : ¬ key k = key a := fun e => hk (key_inj.mp e)
          simp [hk, this]
  · refine ⟨ks ++ [a], vs ++ [z], by simp [h], ?_, by simp [hl], fun x hx => ?_, by simp⟩
    · exact List.nodup_append.mpr ⟨hn, by simp, fun x hx y hy => by rw [List.mem_singleton.mp hy]; rintro rfl; exact h hx⟩
    · rcases List.mem_append.mp hx with hx | hx
      · exact .inl hx
      · exact .inr (List.mem_singleton.mp hx)
theorem keys_kD (ks : List P2) : DK.keys (.t (ks.map key)) = ks.map eK := by
  unfold DK.keys
  dsimp only
  rw [List.map_map]
  rfl
theorem toD_eK (p : P2) : toD (eK p) = some (.tuple [.str p.1, .str p.2]) := by simp [eK, toD, toDs]
theorem eqK {p q : P2} (h : p ≠ q) : eqS (eK p) (eK q) = some false := by
  have hd : ∀ p : P2, dep (eK p) ≤ 1 := fun p => by simp [eK, dep, deps]
  unfold eqS
  rw [toD_eK, toD_eK]
  have hm : min (dep (eK p)) (dep (eK q)) ≤ 60 := by have := hd p; omega
  have e1 := eqv_str p.1 q.1
  have e2 := eqv_str p.2 q.2
  have : ¬ (p.1 = q.1 ∧ p.2 = q.2) := fun e => h (Prod.ext e.1 e.2)
  simp only [if_pos hm]
  simp [PyData.eqv, PyData.eqvAll] at e1 e2 ⊢
  intro h1 h2
  exact this ⟨h1, h2⟩
theorem ks_sort {ks : List P2} (hn : ks.Nodup) (hl : ks.length ≤ 100) : ∃ ks' : List P2, sortedS (ks.map eK) = some (.lst (ks'.map eK)) ∧ (∀ x, x ∈ ks' ↔ x ∈ ks) ∧ ks'.length = ks.length ∧ Asc (ks'.map eK) := by
  have hs := sq_keys ks hl
  obtain ⟨ds, e, hal, hso⟩ := hs.ds
  have hp := List.mergeSort_perm ks fun a b => PySem.W.dataLe false encD (eK a) (eK b)
  refine ⟨ks.mergeSort fun a b => PySem.W.dataLe false encD (eK a) (eK b), by rw [sortedS_of e hal hso hs.len hs.dep, srt_map], fun x => hp.mem_iff, hp.length_eq, ?_⟩
  have h1 := srt_pw (ks.map eK)
  rw [srt_map] at h1
  refine h1.and ?_
  rw [List.pairwise_map]
  exact (hp.nodup_iff.mpr hn).imp fun h => eqK h
theorem at4' {a b c : Int} {d : Nat} (h : d < 4) : ∃ z : Int, itemS (.lst [.int 0, .int a, .int b, .int c]) (.int (d : Nat)) = some (.int z) := by
  have : d = 0 ∨ d = 1 ∨ d = 2 ∨ d = 3 := by omega
  rcases this with rfl | rfl | rfl | rfl
  · exact ⟨0, rfl⟩
  · exact ⟨a, rfl⟩
  · exact ⟨b, rfl⟩
  · exact ⟨c, rfl⟩
theorem far3 {d1 : Nat} {d2 : Nat} (h1 : d1 < 94) (h : d2 < 3) : ∃ f z : Int, itemS (.lst [.int 1, .int 1, .int (-1)]) (.int (d2 : Nat)) = some (.int f) ∧ binS .Mult (.int (7 + (d1 : Int))) (.int f) = some (.int z) := by
  have hl : (7 + (d1 : Int)).natAbs.log2 < 50 := log_le (by omega) (by omega)
  have : d2 = 0 ∨ d2 = 1 ∨ d2 = 2 := by omega
  rcases this with rfl | rfl | rfl
  · refine ⟨1, (7 + (d1 : Int)) * 1, rfl, ?_⟩
    unfold binS
    exact if_pos (by have : (1 : Int).natAbs.log2 < 50 := log_le (by decide) (by omega); omega)
  · refine ⟨1, (7 + (d1 : Int)) * 1, rfl, ?_⟩
    unfold binS
    exact if_pos (by have : (1 : Int).natAbs.log2 < 50 := log_le (by decide) (by omega); omega)
  · refine ⟨-1, (7 + (d1 : Int)) * (-1), rfl, ?_⟩
    unfold binS
    exact if_pos (by have : (-1 : Int).natAbs.log2 < 50 := log_le (by decide) (by omega); omega)
theorem at4 {d1 d2 d3 : Int} {d : Nat} (h : d < 4) : ∃ z : Int, itemS (.lst [.int 0, .int 1, .int d1, .int d2]) (.int (d : Nat)) = some (.int z) := by
  have : d = 0 ∨ d = 1 ∨ d = 2 ∨ d = 3 := by omega
  rcases this with rfl | rfl | rfl | rfl
  · exact ⟨0, rfl⟩
  · exact ⟨1, rfl⟩
  · exact ⟨d1, rfl⟩
  · exact ⟨d2, rfl⟩
theorem sk_at2 {N : Nat} {r m : Mu} {o : MO} (h : Sk pre N (r ++ [o]) m) : m[pre.length + (r.length + 1)]? = some o := by
  obtain ⟨a, b, c, rfl, _⟩ := h
  exact end_get ..
theorem sk_drf2 {N : Nat} {r m : Mu} {ks : List P2} {vs : List Int} (h : Sk pre N (r ++ [.dct (.t (ks.map key)) (vs.map .int)]) m) : drf m (.loc (pre.length + (r.length + 1))) = kD ks vs := by
  simp only [drf, sk_at2 h]
  rfl
theorem sk_put {N : Nat} {r m : Mu} {ks : List P2} {vs : List Int} (h : Sk pre N (r ++ [.dct (.t (ks.map key)) (vs.map .int)]) m) (hn : ks.Nodup) (hl : vs.length = ks.length) (hk : ks.length ≤ 100) (a : P2) (z : Int) : ∃ (m' : Mu) (ks' : List P2) (vs' : List Int), stiS (.int z) (.loc (pre.length + (r.length + 1))) (eK a) m = some m' ∧ Sk pre N (r ++ [.dct (.t (ks'.map key)) ((vs' : List Int).map .int)]) m' ∧ ks'.Nodup ∧ vs'.length = ks'.length ∧ (∀ x ∈ ks', x ∈ ks ∨ x = a) ∧ ks'.length ≤ ks.length + 1 := by
  obtain ⟨ks', vs', e, h1, h2, h3, h4⟩ := put_kD (a := a) (z := z) hn hl
  refine ⟨m.set (pre.length + (r.length + 1)) (.dct (.t (ks'.map key)) (vs'.map .int)), ks', vs', ?_, ?_, h1, h2, h3, h4⟩
  · have hlt : vs.length < 16777216 := by omega
    simp [stiS, sk_at2 h, sizeLine_eq, hlt, e]
  · obtain ⟨a1, b1, c1, rfl, g⟩ := h
    exact ⟨a1, b1, c1, end_set .., g⟩
/-- what is drawn of bounds -/
structure Bs (es : List Str) (bs : List B3) : Prop where
  bnd : ∀ b ∈ bs, (b.1 = (PySem.Str.ofString "go") ∨ b.1 ∈ es) ∧ (b.2.1 = (PySem.Str.ofString "go") ∨ b.2.1 ∈ es) ∧ b.1 ≠ b.2.1
  bas : Asc (bs.map fun b => eK (b.1, b.2.1))
  bsz : bs.length ≤ 100
def okP (es : List Str) (p : P2) : Prop := (p.1 = (PySem.Str.ofString "go") ∨ p.1 ∈ es) ∧ (p.2 = (PySem.Str.ofString "go") ∨ p.2 ∈ es) ∧ p.1 ≠ p.2
abbrev lR (pre : Mu) (es : List Str) (mn gr : Int) (n0 : Nat) (x6 x7 x8 x9 x10 x11 : Option PV) : Rho := [some (.loc pre.length), some (eN es), some (.int mn), some (.int gr), some (.loc n0), some (.lst ((es ++ [(PySem.Str.ofString "go")]).map .str)), x6, x7, x8, x9, x10, x11]
def Pl (pre : Mu) (es : List Str) (mn gr : Int) (r : Mu) (M : Nat) (i : Nat) (ρ : Rho) (m : Mu) : Prop := ∃ (N : Nat) (ks : List P2) (vs : List Int) (x6 x7 x8 x9 x10 x11 : Option PV), ρ = lR pre es mn gr (pre.length + (r.length + 1)) x6 x7 x8 x9 x10 x11 ∧ Sk pre N (r ++ [.dct (.t (ks.map key)) (vs.map .int)]) m ∧ N ≤ M + 20 * i ∧ ks.length ≤ i ∧ ks.Nodup ∧ vs.length = ks.length ∧ ∀ p ∈ ks, okP es p
theorem p_few_limits (k : Nat) {M : Nat} {r m : Mu} (h : Sk pre M r m) (hr : Cl (pre ++ r)) (es : List Str) (hel : es.length ≤ 90) (mn : Nat) (hn : mn ≤ 10) (gr : Int) (hg : 0 < gr) (hg2 : gr < 900) (hM : M < 900000) : ∃ (bs : List B3) (m' : Mu), Lv T (k + 2) (PySem.Str.ofString "_law_few_limits") [.loc pre.length, eN es, .int (mn : Nat), .int gr] m = .ok (.tup true (bs.map eB)) m' ∧ Sk pre (M + 250) r m' ∧ Bs es bs := by
  have hlen := sk_len h
  have h1 := sk_new h (.dct (.t []) [])
  have hl100 : ∀ {N : Nat} {m : Mu}, True := trivial
  have hsp : (es ++ [(PySem.Str.ofString "go")]).length ≤ 100 := by simp; omega
  rw [lv__law_few_limits _ _ rfl, bl__law_few_limits]
  suffices hh : Run (Lv T (k + 1)) _ (startR 12 [.loc pre.length, eN es, .int (mn : Nat), .int gr]) m fun x => ∃ (bs : List B3) (o : MO) (m' : Mu), x = .rt (.tup true (bs.map eB)) m' ∧ Sk pre (M + 250) (r ++ [o]) m' ∧ Bs es bs by
    obtain ⟨bs, o, m', e, hs, hw⟩ := hh
    obtain ⟨m2, e2, hs2⟩ := sk_fin (g := true) (xs := bs.map eB) hs hr (sk_len h) (lbs_map (fun _ => by simp [eB, lb, lbs]) bs)
    refine ⟨bs, m2, ?_, hs2, hw⟩
    rw [e]
    simp only [exitS, Bool.false_eq_true, if_false]
    exact e2
  refine run_nx (lR pre es (mn : Nat) gr (pre.length + (r.length + 1)) none none none none none none) (m ++ [MO.dct (.t []) []]) ?_ ?_
  · have hdn : ∀ ρ m, ev (Lv T (k + 1)) (.dnew true) ρ m = .ok (.loc m.length) (m ++ [.dct (.t []) []]) := fun ρ m => by
      simp only [ev, if_true]
    have hsz : es.length + 1 ≤ 16777216 := by omega
    have hsz2 : es.length ≤ 16777215 := by omega
    simp [exs, ex, evT, ev_nm, ev_cst, ev_pr, ev_and, ev_or, ev_ite, ev_call, evs_nil, evs_cons, evs_star, ev_comp, ev_dcomp, evw_seq, evw_zip, evw_rngK, startR, bnd_ok, go_ok, seq_nx, seq_rt, exitS, prR, seesR, d_non, d_bl, d_int, d_str, d_tup, d_lst, d_scr, d_dct, d_ty, prS, bltS, tyS, boolR, oRes, oWd, walkS, fin, kit1, kit2, kit3, kit4, lenS, lim, sizeLine_eq, cmpS, bindT, setAll, hdn, hlen, eN, itemsS, binS, hsz, hsz2]
  obtain ⟨n, m0, e0, hn0, h0⟩ := sk_dip k h1 ((mn : Int) + 1) (by omega) (by omega) (by omega)
  refine run_for (m1 := m0) (xs := (List.range n).map fun k => PV.int (k : Nat)) (ws := []) (Pl pre es (mn : Nat) gr r (M + 1)) ?_ (fun _ _ _ _ => keeps_nil _ _) ⟨M + 1, [], [], none, none, none, none, none, none, rfl, h0, by omega, by simp, by simp, rfl, by simp⟩ ?_ ?_
  · have hrng := rng_nat (n := n) (by omega) m0
    simp [exs, ex, evT, ev_nm, ev_cst, ev_pr, ev_and, ev_or, ev_ite, ev_call, evs_nil, evs_cons, evs_star, ev_comp, ev_dcomp, evw_seq, evw_zip, evw_rngK, startR, bnd_ok, go_ok, seq_nx, seq_rt, exitS, prR, seesR, d_non, d_bl, d_int, d_str, d_tup, d_lst, d_scr, d_dct, d_ty, prS, bltS, tyS, boolR, oRes, oWd, walkS, fin, kit1, kit2, kit3, kit4, lenS, lim, sizeLine_eq, cmpS, bindT, setAll, binS.eq_1, e0, hrng]
  · rintro j x hx ρ m ⟨N, ks, vs, x6, x7, x8, x9, x10, x11, rfl, hs, hN, hj, hkn, hvl, hok⟩
    have hjn : j < n := by
      have := (List.getElem?_eq_some_iff.mp hx).1
      simpa using this
    refine ⟨_, rfl, ?_⟩
    obtain ⟨d1, m1, e1, hd1, h1⟩ := sk_dip k hs (((es ++ [(PySem.Str.ofString "go")]).length : Nat) : Int) (by simp) (by omega) (by omega)
    obtain ⟨d2, m2, e2, hd2, h2⟩ := sk_dip k h1 (((es ++ [(PySem.Str.ofString "go")]).length : Nat) : Int) (by simp) (by omega) (by omega)
    have hd1' : d1 < (es ++ [(PySem.Str.ofString "go")]).length := by omega
    have hd2' : d2 < (es ++ [(PySem.Str.ofString "go")]).length := by omega
    have ha := str_at hd1'
    have hb := str_at hd2'
    have hma : ∀ x ∈ es ++ [(PySem.Str.ofString "go")], x = (PySem.Str.ofString "go") ∨ x ∈ es := fun x hx => by
      rcases List.mem_append.mp hx with hx | hx
      · exact .inr hx
      · exact .inl (List.mem_singleton.mp hx)
    have oa := hma _ (List.getElem_mem hd1')
    have ob := hma _ (List.getElem_mem hd2')
    generalize (es ++ [(PySem.Str.ofString "go")])[d1] = a at *
    generalize (es ++ [(PySem.Str.ofString "go")])[d2] = b at *
    refine run_nx (lR pre es (mn : Nat) gr (pre.length + (r.length + 1)) (some x) (some (.str a)) (some (.str b)) x9 x10 x11) m2 ?_ ?_
    · have hls : (((es ++ [(PySem.Str.ofString "go")]).map PV.str).length : Nat) = (es ++ [(PySem.Str.ofString "go")]).length := List.length_map _
      simp [exs, ex, evT, ev_nm, ev_cst, ev_pr, ev_and, ev_or, ev_ite, ev_call, evs_nil, evs_cons, evs_star, ev_comp, ev_dcomp, evw_seq, evw_zip, evw_rngK, startR, bnd_ok, go_ok, seq_nx, seq_rt, exitS, prR, seesR, d_non, d_bl, d_int, d_str, d_tup, d_lst, d_scr, d_dct, d_ty, prS, bltS, tyS, boolR, oRes, oWd, walkS, fin, kit1, kit2, kit3, kit4, lenS, lim, sizeLine_eq, cmpS, bindT, setAll, e1, e2, ha, hb, -List.map_append, -List.length_append]
    refine run_or (fun ρ' m' => Pl pre es (mn : Nat) gr r (M + 1) (j + 1) ρ' m') ?_ fun ρ' m' hp => run_nil ⟨ρ', m', rfl, hp⟩
    by_cases hab : a = b
    · refine .inl ⟨m2, ?_, run_nil ⟨_, _, rfl, _, ks, vs, _, _, _, _, _, _, rfl, h2, by omega, by omega, hkn, hvl, hok⟩⟩
      simp [exs, ex, evT, ev_nm, ev_cst, ev_pr, ev_and, ev_or, ev_ite, ev_call, evs_nil, evs_cons, evs_star, ev_comp, ev_dcomp, evw_seq, evw_zip, evw_rngK, startR, bnd_ok, go_ok, seq_nx, seq_rt, exitS, prR, seesR, d_non, d_bl, d_int, d_str, d_tup, d_lst, d_scr, d_dct, d_ty, prS, bltS, tyS, boolR, oRes, oWd, walkS, fin, kit1, kit2, kit3, kit4, lenS, lim, sizeLine_eq, cmpS, bindT, setAll, eq_strs, hab]
    · refine .inr ⟨m2, ?_, ?_⟩
      · simp [exs, ex, evT, ev_nm, ev_cst, ev_pr, ev_and, ev_or, ev_ite, ev_call, evs_nil, evs_cons, evs_star, ev_comp, ev_dcomp, evw_seq, evw_zip, evw_rngK, startR, bnd_ok, go_ok, seq_nx, seq_rt, exitS, prR, seesR, d_non, d_bl, d_int, d_str, d_tup, d_lst, d_scr, d_dct, d_ty, prS, bltS, tyS, boolR, oRes, oWd, walkS, fin, kit1, kit2, kit3, kit4, lenS, lim, sizeLine_eq, cmpS, bindT, setAll, eq_strs, hab]
      obtain ⟨d3, m3, e3, hd3, h3⟩ := sk_dip k h2 (gr + 1) (by omega) (by omega) (by omega)
      obtain ⟨d4, m4, e4, hd4, h4⟩ := sk_dip k h3 (gr + 1) (by omega) (by omega) (by omega)
      obtain ⟨d5, m5, e5, hd5, h5⟩ := sk_dip k h4 gr (by omega) (by omega) (by omega)
      refine run_nx (lR pre es (mn : Nat) gr (pre.length + (r.length + 1)) (some x) (some (.str a)) (some (.str b)) (some (.lst [.int 0, .int (d3 : Nat), .int (d4 : Nat), .int (0 - (d5 : Int))])) x10 x11) m5 ?_ ?_
      · simp [exs, ex, evT, ev_nm, ev_cst, ev_pr, ev_and, ev_or, ev_ite, ev_call, evs_nil, evs_cons, evs_star, ev_comp, ev_dcomp, evw_seq, evw_zip, evw_rngK, startR, bnd_ok, go_ok, seq_nx, seq_rt, exitS, prR, seesR, d_non, d_bl, d_int, d_str, d_tup, d_lst, d_scr, d_dct, d_ty, prS, bltS, tyS, boolR, oRes, oWd, walkS, fin, kit1, kit2, kit3, kit4, lenS, lim, sizeLine_eq, cmpS, bindT, setAll, binS.eq_1, binS.eq_5, e3, e4, e5]
      obtain ⟨d6, m6, e6, hd6, h6⟩ := sk_dip k h5 4 (by omega) (by omega) (by omega)
      obtain ⟨z, ez⟩ := at4' (a := (d3 : Int)) (b := (d4 : Int)) (c := -(d5 : Int)) (d := d6) (by omega)
      refine run_nx (lR pre es (mn : Nat) gr (pre.length + (r.length + 1)) (some x) (some (.str a)) (some (.str b)) (some (.lst [.int 0, .int (d3 : Nat), .int (d4 : Nat), .int (0 - (d5 : Int))])) (some (.int z)) x11) m6 ?_ ?_
      · simp [exs, ex, evT, ev_nm, ev_cst, ev_pr, ev_and, ev_or, ev_ite, ev_call, evs_nil, evs_cons, evs_star, ev_comp, ev_dcomp, evw_seq, evw_zip, evw_rngK, startR, bnd_ok, go_ok, seq_nx, seq_rt, exitS, prR, seesR, d_non, d_bl, d_int, d_str, d_tup, d_lst, d_scr, d_dct, d_ty, prS, bltS, tyS, boolR, oRes, oWd, walkS, fin, kit1, kit2, kit3, kit4, lenS, lim, sizeLine_eq, cmpS, bindT, setAll, e6, ez]
      refine run_or (fun ρ' m' => ∃ (N' : Nat) (z : Int) (x9 : Option PV), ρ' = lR pre es (mn : Nat) gr (pre.length + (r.length + 1)) (some x) (some (.str a)) (some (.str b)) x9 (some (.int z)) x11 ∧ Sk pre N' (r ++ [.dct (.t (ks.map key)) (vs.map .int)]) m' ∧ N' ≤ N + 12) ?_ ?_
      · obtain ⟨d7, m7, e7, hd7, h7⟩ := sk_dip k h6 12 (by omega) (by omega) (by omega)
        by_cases h0 : d7 = 0
        · obtain ⟨d8, m8, e8, hd8, h8⟩ := sk_dip k h7 94 (by omega) (by omega) (by omega)
          obtain ⟨d9, m9, e9, hd9, h9⟩ := sk_dip k h8 3 (by omega) (by omega) (by omega)
          obtain ⟨f, z2, ef, ez2⟩ := far3 (d1 := d8) (d2 := d9) (by omega) (by omega)
          refine .inr ⟨m7, ?_, run_nx (lR pre es (mn : Nat) gr (pre.length + (r.length + 1)) (some x) (some (.str a)) (some (.str b)) (some (.lst [.int 0, .int (d3 : Nat), .int (d4 : Nat), .int (0 - (d5 : Int))])) (some (.int z2)) x11) m9 ?_ (run_nil ⟨_, _, rfl, _, z2, _, rfl, h9, by omega⟩)⟩
          · simp [exs, ex, evT, ev_nm, ev_cst, ev_pr, ev_and, ev_or, ev_ite, ev_call, evs_nil, evs_cons, evs_star, ev_comp, ev_dcomp, evw_seq, evw_zip, evw_rngK, startR, bnd_ok, go_ok, seq_nx, seq_rt, exitS, prR, seesR, d_non, d_bl, d_int, d_str, d_tup, d_lst, d_scr, d_dct, d_ty, prS, bltS, tyS, boolR, oRes, oWd, walkS, fin, kit1, kit2, kit3, kit4, lenS, lim, sizeLine_eq, cmpS, bindT, setAll, e7, eq_int, h0]
          · simp [exs, ex, evT, ev_nm, ev_cst, ev_pr, ev_and, ev_or, ev_ite, ev_call, evs_nil, evs_cons, evs_star, ev_comp, ev_dcomp, evw_seq, evw_zip, evw_rngK, startR, bnd_ok, go_ok, seq_nx, seq_rt, exitS, prR, seesR, d_non, d_bl, d_int, d_str, d_tup, d_lst, d_scr, d_dct, d_ty, prS, bltS, tyS, boolR, oRes, oWd, walkS, fin, kit1, kit2, kit3, kit4, lenS, lim, sizeLine_eq, cmpS, bindT, setAll, binS.eq_1, e8, e9, ef, ez2]
        · refine .inl ⟨m7, ?_, run_nil ⟨_, _, rfl, _, z, _, rfl, h7, by omega⟩⟩
          simp [exs, ex, evT, ev_nm, ev_cst, ev_pr, ev_and, ev_or, ev_ite, ev_call, evs_nil, evs_cons, evs_star, ev_comp, ev_dcomp, evw_seq, evw_zip, evw_rngK, startR, bnd_ok, go_ok, seq_nx, seq_rt, exitS, prR, seesR, d_non, d_bl, d_int, d_str, d_tup, d_lst, d_scr, d_dct, d_ty, prS, bltS, tyS, boolR, oRes, oWd, walkS, fin, kit1, kit2, kit3, kit4, lenS, lim, sizeLine_eq, cmpS, bindT, setAll, e7, eq_int, h0]
      rintro ρ' m7 ⟨N7, z, x9', rfl, h7, hN7⟩
      obtain ⟨m8, ks', vs', e8, h8, hkn', hvl', hmem, hlk⟩ := sk_put h7 hkn hvl (by omega) (a, b) z
      refine run_nx (lR pre es (mn : Nat) gr (pre.length + (r.length + 1)) (some x) (some (.str a)) (some (.str b)) x9' (some (.int z)) x11) m8 ?_ (run_nil ⟨_, _, rfl, _, ks', vs', _, _, _, _, _, _, rfl, h8, by omega, by omega, hkn', hvl', fun p hp => ?_⟩)
      · simp only [eK] at e8
        simp [exs, ex, evT, ev_nm, ev_cst, ev_pr, ev_and, ev_or, ev_ite, ev_call, evs_nil, evs_cons, evs_star, ev_comp, ev_dcomp, evw_seq, evw_zip, evw_rngK, startR, bnd_ok, go_ok, seq_nx, seq_rt, exitS, prR, seesR, d_non, d_bl, d_int, d_str, d_tup, d_lst, d_scr, d_dct, d_ty, prS, bltS, tyS, boolR, oRes, oWd, walkS, fin, kit1, kit2, kit3, kit4, lenS, lim, sizeLine_eq, cmpS, bindT, setAll, e8]
      · rcases hmem p hp with h | rfl
        · exact hok p h
        · exact ⟨oa, ob, hab⟩
  · rintro ρ' m' ⟨N, ks, vs, x6, x7, x8, x9, x10, x11, rfl, hs, hN, hj, hkn, hvl, hok⟩
    rw [List.length_map, List.length_range] at hN hj
    obtain ⟨ks', e, hmem, hlk, hasc⟩ := ks_sort hkn (by omega)
    have hdr := sk_drf2 hs
    have hw : collect (stepC (Lv T (k + 1)) (.nm 11) [11] (.cst (.bl true)) (.pr .tup (.cons false (.pr .item (.cons false (.nm 11) (.cons false (.cst (.int 0)) .nil))) (.cons false (.pr .item (.cons false (.nm 11) (.cons false (.cst (.int 1)) .nil))) (.cons false (.pr .item (.cons false (.nm 4) (.cons false (.nm 11) .nil))) .nil)))) (lR pre es (mn : Nat) gr (pre.length + (r.length + 1)) x6 x7 x8 x9 x10 x11)) (keeps [] m') (ks'.map eK) m' = .ok (((ks'.map fun p => (p.1, p.2, val ks vs p)).map eB)) m' := by
      rw [collect_map (g := fun p => match p with | .tup _ [.str a, .str b] => eB (a, b, val ks vs (a, b)) | p => p) (keeps_nil m' m') fun y hy => ?_]
      · rw [List.map_map, List.map_map]
        rfl
      · obtain ⟨p, hp, rfl⟩ := List.mem_map.mp hy
        have hg := get_kD (p := p) (ks := ks) (vs := vs) ((hmem p).mp hp) hvl
        have i0 : itemS (eK p) (.int 0) = some (.str p.1) := rfl
        have i1 : itemS (eK p) (.int 1) = some (.str p.2) := rfl
        have dk : drf m' (eK p) = eK p := rfl
        show _ = Res.ok [eB (p.1, p.2, val ks vs p)] m'
        simp [stepC, bindT, wipeR, noX, ev_nm, ev_cst, ev_pr, ev_call, evs_cons, evs_nil, bnd_ok, boolR, prR, seesR, prS, oRes, d_str, d_bl, d_int, dk, hdr, i0, i1, hg, lim, sizeLine_eq, eB]
    refine run_ret (p := .tup true ((ks'.map fun p => (p.1, p.2, val ks vs p)).map eB)) (m' := m') ?_ ⟨_, _, m', rfl, hs.mono (by omega), ?_⟩
    · have hsz : ks'.length ≤ 16777216 := by omega
      have hkl : ∀ xs, bltS .list [.dct (.t (ks.map key)) xs] = some (.lst (ks.map eK)) := fun xs => by
        show some (PV.lst (DK.keys (.t (ks.map key)))) = _
        rw [keys_kD]
      unfold kD at hdr
      rw [ev_pr, evs_cons, ev_comp, evw_seq]
      have hev : ev (Lv T (k + 1)) (.pr (.blt .sorted) (.cons false (.pr (.blt .list) (.cons false (.nm 4) .nil)) .nil)) (lR pre es (mn : Nat) gr (pre.length + (r.length + 1)) x6 x7 x8 x9 x10 x11) m' = .ok (.lst (ks'.map eK)) m' := by
        have hsrt : bltS .sorted [.lst (ks.map eK)] = some (.lst (ks'.map eK)) := e
        simp [ev_nm, ev_pr, evs_cons, evs_nil, bnd_ok, prR, seesR, prS, oRes, hdr, hkl, hsrt, d_lst]
      rw [hev]
      simp only [bnd_ok, walkS, oWd, List.length_map, sizeLine_eq, if_pos hsz, hw]
      simp [ev_nm, ev_pr, evs_cons, evs_nil, bnd_ok, prR, seesR, prS, oRes, d_lst, bltS, lsS]
    · refine ⟨fun b hb => ?_, ?_, by rw [List.length_map]; omega⟩
      · obtain ⟨p, hp, rfl⟩ := List.mem_map.mp hb
        exact hok p ((hmem p).mp hp)
      · rw [List.map_map]
        exact hasc
end Sn.Lk08
namespace Sn.Lk08
open PySem PySem.Spec PyProof.Rows L2
variable {pre : Mu}
/-- a drawn plan -/
structure DP (lt : Int) (es : List Str) (bs : List B3) (js : List J4) (rk : Str → Nat) : Prop where
  vp : VP lt es bs js rk
  nd : es.Nodup
  el : es.length ≤ 7
  jl : js.length ≤ 3
theorem fin_same {p : PV} {m m' : Mu} (h : m'.length ≤ m.length) : fin m.length p m' = .ok p m' := by
  unfold fin
  rw [if_pos h]
/-- other times for the same jobs -/
theorem j0_of {es : List Str} {js js' : List J4} {rk : Str → Nat} (h : Js es js rk) (he : js'.map (fun j => (j.1, j.2.1)) = js.map fun j => (j.1, j.2.1)) (ht : ∀ j ∈ js', 1 ≤ j.2.2.1 ∧ j.2.2.1 ≤ j.2.2.2 ∧ j.2.2.2 - j.2.2.1 < 900) : ∃ rk', J0 es [] js' rk' := by
  classical
  have hends : ends js' = ends js := by
    have := congrArg (List.map Prod.snd) he
    rw [List.map_map, List.map_map] at this
    exact this
  have hlen : js'.length = js.length := by
    have := congrArg List.length he
    simpa using this
  have hmem : ∀ j ∈ js', ∃ i ∈ js, i.1 = j.1 ∧ i.2.1 = j.2.1 := fun j hj => by
    have : (j.1, j.2.1) ∈ js'.map (fun j => (j.1, j.2.1)) := List.mem_map.mpr ⟨j, hj, rfl⟩
    rw [he] at this
    obtain ⟨i, hi, e⟩ := List.mem_map.mp this
    exact ⟨i, hi, (Prod.mk.inj e).1, (Prod.mk.inj e).2⟩
  refine ⟨fun x => if x ∈ ends js' then rk x else 0, List.nodup_nil, by simp, by simp, fun j hj => ?_, fun j hj => (ht j hj).2.2, by rw [hends]; exact h.jnd, fun j hj => ?_, fun x hx => if_neg hx⟩
  · obtain ⟨i, hi, e1, e2⟩ := hmem j hj
    have := h.jok i hi
    rw [e1, e2] at this
    exact ⟨this.1, this.2.1, (ht j hj).1, (ht j hj).2.1⟩
  · obtain ⟨i, hi, e1, e2⟩ := hmem j hj
    have h1 := h.jrk.lt i hi
    have h2 := h.jrk.le i hi
    rw [e1, e2] at h1
    rw [e2] at h2
    have hm : j.2.1 ∈ ends js' := mem_ends.mpr ⟨j, hj, rfl⟩
    simp only [if_pos hm]
    rw [hlen]
    refine ⟨?_, h2⟩
    split
    · exact h1
    · omega
abbrev gR (pre : Mu) (es : List Str) (mn : Int) (n0 : Nat) (x4 x5 x6 x7 : Option PV) : Rho := [some (.loc pre.length), some (eN es), some (.int mn), some (.loc n0), x4, x5, x6, x7]
def Pg (pre : Mu) (es : List Str) (js : List J4) (mn : Int) (r : Mu) (M : Nat) (i : Nat) (ρ : Rho) (m : Mu) : Prop := ∃ (N : Nat) (js' : List J4) (x4 x5 x6 x7 : Option PV), ρ = gR pre es mn (pre.length + (r.length + 1)) x4 x5 x6 x7 ∧ Sk pre N (r ++ [.lst (js'.map eJ)]) m ∧ N ≤ M + 2 * i ∧ js'.map (fun j => (j.1, j.2.1)) = (js.take i).map (fun j => (j.1, j.2.1)) ∧ ∀ j ∈ js', 1 ≤ j.2.2.1 ∧ j.2.2.1 ≤ j.2.2.2 ∧ j.2.2.2 - j.2.2.1 < 900
theorem take_add {α : Type} {es : List α} {i : Nat} {x : α} (e : es[i]? = some x) : es.take (i + 1) = es.take i ++ [x] := by
  rw [List.take_succ, e]
  rfl
theorem cl_app {pre r : Mu} (h : Cl (pre ++ r)) {o : MO} (ho : ∀ n, lbM n o = true) : Cl (pre ++ (r ++ [o])) := by
  rw [← List.append_assoc]
  exact h.app ho
theorem p_long_jobs (k : Nat) {M : Nat} {r m : Mu} (h : Sk pre M r m) (hr : Cl (pre ++ r)) (es : List Str) (hes : es.Nodup) (hel : es.length ≤ 100) (n : Nat) (hn : n ≤ 3) (hM : M < 800000) : ∃ (js : List J4) (rk : Str → Nat) (m' : Mu), Lv T (k + 3) (PySem.Str.ofString "_law_long_jobs") [.loc pre.length, eN es, .int (n : Nat)] m = .ok (.tup true (js.map eJ)) m' ∧ Sk pre (M + 70) r m' ∧ Js es js rk := by
  have hlen := sk_len h
  have h1 := sk_new h (MO.lst [])
  rw [lv__law_long_jobs _ _ rfl, bl__law_long_jobs]
  suffices hh : Run (Lv T (k + 2)) _ (startR 8 [.loc pre.length, eN es, .int (n : Nat)]) m fun x => ∃ (js : List J4) (rk : Str → Nat) (o : MO) (m' : Mu), x = .rt (.tup true (js.map eJ)) m' ∧ Sk pre (M + 70) (r ++ [o]) m' ∧ Js es js rk by
    obtain ⟨js, rk, o, m', e, hs, hw⟩ := hh
    obtain ⟨m2, e2, hs2⟩ := sk_fin (g := true) (xs := js.map eJ) hs hr (sk_len h) (lbs_map (fun _ => by simp [eJ, lb, lbs]) js)
    refine ⟨js, rk, m2, ?_, hs2, hw⟩
    rw [e]
    simp only [exitS, Bool.false_eq_true, if_false]
    exact e2
  refine run_nx (gR pre es (n : Nat) (pre.length + (r.length + 1)) none none none none) (m ++ [.lst []]) ?_ ?_
  · simp [exs, ex, evT, ev_nm, ev_cst, ev_pr, ev_and, ev_or, ev_ite, ev_call, evs_nil, evs_cons, evs_star, ev_comp, ev_dcomp, evw_seq, evw_zip, evw_rngK, startR, bnd_ok, go_ok, seq_nx, seq_rt, exitS, prR, seesR, d_non, d_bl, d_int, d_str, d_tup, d_lst, d_scr, d_dct, d_ty, prS, bltS, tyS, boolR, oRes, oWd, walkS, fin, kit1, kit2, kit3, kit4, lenS, lim, sizeLine_eq, cmpS, bindT, setAll, ev_thw, hlen]
  obtain ⟨js, rk, m1, e1, h1, hjs⟩ := p_law_jobs k h1 (cl_app hr (o := .lst []) (fun n => rfl)) es hes hel n hn 2 (by omega) (by omega) (by omega)
  have hjl := hjs.jsz
  refine run_for (m1 := m1) (xs := js.map eJ) (ws := []) (Pg pre es js (n : Nat) r (M + 50)) ?_ (fun _ _ _ _ => keeps_nil _ _) ⟨_, [], none, none, none, none, rfl, h1, by omega, by simp, by simp⟩ ?_ ?_
  · simp [exs, ex, evT, ev_nm, ev_cst, ev_pr, ev_and, ev_or, ev_ite, ev_call, evs_nil, evs_cons, evs_star, ev_comp, ev_dcomp, evw_seq, evw_zip, evw_rngK, startR, bnd_ok, go_ok, seq_nx, seq_rt, exitS, prR, seesR, d_non, d_bl, d_int, d_str, d_tup, d_lst, d_scr, d_dct, d_ty, prS, bltS, tyS, boolR, oRes, oWd, walkS, fin, kit1, kit2, kit3, kit4, lenS, lim, sizeLine_eq, cmpS, bindT, setAll, e1]
  · rintro i x hx ρ m ⟨N, js', x4, x5, x6, x7, rfl, hs, hN, hj, ht⟩
    rw [List.getElem?_map] at hx
    obtain ⟨j, hjx, rfl⟩ := Option.map_eq_some_iff.mp hx
    have hi : i < js.length := (List.getElem?_eq_some_iff.mp hjx).1
    have hl : js'.length ≤ 3 := by
      have := congrArg List.length hj
      simp at this
      omega
    refine ⟨_, rfl, ?_⟩
    obtain ⟨d1, m1, e1, hd1, h1⟩ := sk_dip (k + 1) hs 40 (by omega) (by omega) (by omega)
    obtain ⟨d2, m2, e2, hd2, h2⟩ := sk_dip (k + 1) h1 (41 - (1 + (d1 : Int))) (by omega) (by omega) (by omega)
    obtain ⟨_, m3, e3, h3⟩ := sk_app h2 (by rw [List.length_map]; omega) (eJ (j.1, j.2.1, 1 + (d1 : Int), 1 + (d1 : Int) + (d2 : Int)))
    have hil : isLo (.loc (pre.length + (r.length + 1))) m1 = true := (sk_app h1 (by rw [List.length_map]; omega) .non).1
    refine run_nx (gR pre es (n : Nat) (pre.length + (r.length + 1)) (some (.str j.1)) (some (.str j.2.1)) (some (.int (1 + (d1 : Int)))) (some (.int j.2.2.2))) m1 ?_ (run_nx (gR pre es (n : Nat) (pre.length + (r.length + 1)) (some (.str j.1)) (some (.str j.2.1)) (some (.int (1 + (d1 : Int)))) (some (.int j.2.2.2))) m3 ?_ (run_nil ⟨_, _, rfl, _, js' ++ [(j.1, j.2.1, 1 + (d1 : Int), 1 + (d1 : Int) + (d2 : Int))], _, _, _, _, rfl, by rw [List.map_append]; exact h3, by omega, ?_, fun q hq => ?_⟩))
    · simp [exs, ex, evT, ev_nm, ev_cst, ev_pr, ev_and, ev_or, ev_ite, ev_call, evs_nil, evs_cons, evs_star, ev_comp, ev_dcomp, evw_seq, evw_zip, evw_rngK, startR, bnd_ok, go_ok, seq_nx, seq_rt, exitS, prR, seesR, d_non, d_bl, d_int, d_str, d_tup, d_lst, d_scr, d_dct, d_ty, prS, bltS, tyS, boolR, oRes, oWd, walkS, fin, kit1, kit2, kit3, kit4, lenS, lim, sizeLine_eq, cmpS, bindT, setAll, binS.eq_1, e1]
    · simp only [eJ] at e3
      simp [exs, ex, evT, ev_nm, ev_cst, ev_pr, ev_and, ev_or, ev_ite, ev_call, evs_nil, evs_cons, evs_star, ev_comp, ev_dcomp, evw_seq, evw_zip, evw_rngK, startR, bnd_ok, go_ok, seq_nx, seq_rt, exitS, prR, seesR, d_non, d_bl, d_int, d_str, d_tup, d_lst, d_scr, d_dct, d_ty, prS, bltS, tyS, boolR, oRes, oWd, walkS, fin, kit1, kit2, kit3, kit4, lenS, lim, sizeLine_eq, cmpS, bindT, setAll, binS.eq_1, binS.eq_5, hil, e2, e3]
    · rw [take_add hjx, List.map_append, List.map_append, hj]
      rfl
    · rcases List.mem_append.mp hq with hq | hq
      · exact ht q hq
      · rw [List.mem_singleton.mp hq]
        refine ⟨?_, ?_, ?_⟩ <;> (simp only; omega)
  · rintro ρ' m' ⟨N, js', x4, x5, x6, x7, rfl, hs, hN, hj, ht⟩
    rw [List.length_map] at hN hj
    rw [List.take_length] at hj
    have hl : js'.length ≤ 3 := by
      have := congrArg List.length hj
      simp at this
      omega
    obtain ⟨rk', hj0⟩ := j0_of hjs hj ht
    obtain ⟨js2, e, hj2⟩ := j0_sort hj0 hl
    refine run_ret (p := .tup true (js2.map eJ)) (m' := m') ?_ ⟨js2, rk', _, m', rfl, hs.mono (by omega), hj2⟩
    have hdr := sk_drf hs
    simp [exs, ex, evT, ev_nm, ev_cst, ev_pr, ev_and, ev_or, ev_ite, ev_call, evs_nil, evs_cons, evs_star, ev_comp, ev_dcomp, evw_seq, evw_zip, evw_rngK, startR, bnd_ok, go_ok, seq_nx, seq_rt, exitS, prR, seesR, d_non, d_bl, d_int, d_str, d_tup, d_lst, d_scr, d_dct, d_ty, prS, bltS, tyS, boolR, oRes, oWd, walkS, fin, kit1, kit2, kit3, kit4, lenS, lim, sizeLine_eq, cmpS, bindT, setAll, hdr, itemsS, e, lsS]
theorem dp_mk {lt : Int} {es : List Str} {bs : List B3} {js : List J4} {rk : Str → Nat} (h0 : 0 ≤ lt) (he : (∀ e ∈ es, Nm e) ∧ Asc (es.map .str) ∧ es.Nodup) (hl : es.length ≤ 7) (hb : Bs es bs) (hj : Js es js rk) : DP lt es bs js rk :=
  ⟨⟨h0, he.1, he.2.1, by omega, hb.bnd, hb.bas, hb.bsz, hj.jok, hj.jas, hj.jnd, hj.jrk, by have := hj.jsz; omega⟩, he.2.2, hl, hj.jsz⟩
theorem p_law_little (k : Nat) {M : Nat} {r m : Mu} (h : Sk pre M r m) (hr : Cl (pre ++ r)) (hM : M < 700000) : ∃ (lt : Int) (es : List Str) (bs : List B3) (js : List J4) (rk : Str → Nat) (m' : Mu), Lv T (k + 3) (PySem.Str.ofString "_law_little") [.loc pre.length, .int 4, .int 5] m = .ok (eP lt es bs js) m' ∧ Sk pre (M + 800) r m' ∧ DP lt es bs js rk := by
  obtain ⟨d1, m1, e1, hd1, h1⟩ := sk_dip (k + 1) h 4 (by omega) (by omega) (by omega)
  obtain ⟨ws, m2, e2, h2, hws, hwl⟩ := p_law_titles k h1 hr (1 + d1) (by omega) (by omega)
  rw [eN_W] at e2
  have hel : (ws.map SX.S).length ≤ 7 := by rw [List.length_map]; omega
  generalize ws.map SX.S = es at *
  obtain ⟨d3, m3, e3, hd3, h3⟩ := sk_dip (k + 1) h2 3 (by omega) (by omega) (by omega)
  obtain ⟨js, rk, m4, e4, h4, hjs⟩ := p_law_jobs k h3 hr es hws.2.2 (by omega) (1 + d3) (by omega) 2 (by omega) (by omega) (by omega)
  obtain ⟨d5, m5, e5, hd5, h5⟩ := sk_dip (k + 1) h4 3 (by omega) (by omega) (by omega)
  obtain ⟨bs, m6, e6, h6, hbs⟩ := p_few_limits k h5 hr es (by omega) 4 (by omega) 3 (by omega) (by omega) (by omega)
  refine ⟨5 - (d5 : Int), es, bs, js, rk, m6, ?_, h6.mono (by omega), dp_mk (by omega) hws hel hbs hjs⟩
  have hlen : m6.length ≤ m.length := by rw [sk_len h6, sk_len h]; omega
  rw [lv__law_little _ _ rfl, bl__law_little]
  simp only [eN] at e2 e4 e6 ⊢
  simp at e2 e4 e6
  simp [exs, ex, evT, ev_nm, ev_cst, ev_pr, ev_and, ev_or, ev_ite, ev_call, evs_nil, evs_cons, evs_star, ev_comp, ev_dcomp, evw_seq, evw_zip, evw_rngK, startR, bnd_ok, go_ok, seq_nx, seq_rt, exitS, prR, seesR, d_non, d_bl, d_int, d_str, d_tup, d_lst, d_scr, d_dct, d_ty, prS, bltS, tyS, boolR, oRes, oWd, walkS, fin, kit1, kit2, kit3, kit4, lenS, lim, sizeLine_eq, cmpS, bindT, setAll, binS.eq_1, binS.eq_5, e1, e2, e3, e4, e5, e6, hlen, eP, eN]
theorem p_law_great (k : Nat) {M : Nat} {r m : Mu} (h : Sk pre M r m) (hr : Cl (pre ++ r)) (hM : M < 600000) : ∃ (lt : Int) (es : List Str) (bs : List B3) (js : List J4) (rk : Str → Nat) (m' : Mu), Lv T (k + 4) (PySem.Str.ofString "_law_great") [.loc pre.length, .int 7, .int 20] m = .ok (eP lt es bs js) m' ∧ Sk pre (M + 800) r m' ∧ DP lt es bs js rk := by
  obtain ⟨d1, m1, e1, hd1, h1⟩ := sk_dip (k + 2) h 7 (by omega) (by omega) (by omega)
  obtain ⟨ws, m2, e2, h2, hws, hwl⟩ := p_law_titles (k + 1) h1 hr (1 + d1) (by omega) (by omega)
  rw [eN_W] at e2
  have hel : (ws.map SX.S).length ≤ 7 := by rw [List.length_map]; omega
  generalize ws.map SX.S = es at *
  obtain ⟨d2, m3, e3, hd2, h3⟩ := sk_dip (k + 2) h2 3 (by omega) (by omega) (by omega)
  obtain ⟨sz, esz, hsz⟩ : ∃ sz : Int, itemS (.lst [.int 3, .int 9, .int 40]) (.int (d2 : Nat)) = some (.int sz) ∧ (sz = 3 ∨ sz = 9 ∨ sz = 40) := by
    have : d2 = 0 ∨ d2 = 1 ∨ d2 = 2 := by omega
    rcases this with rfl | rfl | rfl
    · exact ⟨3, rfl, .inl rfl⟩
    · exact ⟨9, rfl, .inr (.inl rfl)⟩
    · exact ⟨40, rfl, .inr (.inr rfl)⟩
  obtain ⟨far, hfar, hfar2⟩ : ∃ far : Int, (if (9 : Int) < sz then (40 : Int) else 20) = far ∧ (far = 20 ∨ far = 40) := ⟨_, rfl, by split <;> simp⟩
  obtain ⟨d4, m4, e4, hd4, h4⟩ := sk_dip (k + 2) h3 3 (by omega) (by omega) (by omega)
  obtain ⟨js0, rk0, m5, e5, h5, hjs0⟩ := p_long_jobs k h4 hr es hws.2.2 (by omega) (1 + d4) (by omega) (by omega)
  have hlen0 := sk_len h
  rw [lv__law_great _ _ rfl, bl__law_great]
  suffices hh : Run (Lv T (k + 3)) _ (startR 8 [.loc pre.length, .int 7, .int 20]) m fun x => ∃ (lt : Int) (es : List Str) (bs : List B3) (js : List J4) (rk : Str → Nat) (m' : Mu), x = .rt (eP lt es bs js) m' ∧ Sk pre (M + 800) r m' ∧ DP lt es bs js rk by
    obtain ⟨lt, es, bs, js, rk, m', e, hs, hd⟩ := hh
    refine ⟨lt, es, bs, js, rk, m', ?_, hs, hd⟩
    rw [e]
    simp only [exitS, Bool.false_eq_true, if_false]
    exact fin_same (by rw [sk_len hs, hlen0]; omega)
  have e2' : Lv T (k + 3) (PySem.Str.ofString "_law_titles") [.loc pre.length, .int (1 + (d1 : Int))] m1 = .ok (eN es) m2 := by simpa using e2
  have e5' : Lv T (k + 3) (PySem.Str.ofString "_law_long_jobs") [.loc pre.length, eN es, .int (1 + (d4 : Int))] m4 = .ok (.tup true (js0.map eJ)) m5 := by simpa using e5
  refine run_nx [some (.loc pre.length), some (.int 7), some (.int 20), some (eN es), some (.int sz), none, none, none] m3 ?_ ?_
  · simp [exs, ex, evT, ev_nm, ev_cst, ev_pr, ev_and, ev_or, ev_ite, ev_call, evs_nil, evs_cons, evs_star, ev_comp, ev_dcomp, evw_seq, evw_zip, evw_rngK, startR, bnd_ok, go_ok, seq_nx, seq_rt, exitS, prR, seesR, d_non, d_bl, d_int, d_str, d_tup, d_lst, d_scr, d_dct, d_ty, prS, bltS, tyS, boolR, oRes, oWd, walkS, fin, kit1, kit2, kit3, kit4, lenS, lim, sizeLine_eq, cmpS, bindT, setAll, binS.eq_1, e1, e2', e3, esz]
  refine run_nx [some (.loc pre.length), some (.int 7), some (.int 20), some (eN es), some (.int sz), some (.int far), none, none] m3 ?_ ?_
  · by_cases h9 : (9 : Int) < sz
    · rw [if_pos h9] at hfar
      simp [exs, ex, evT, ev_nm, ev_cst, ev_pr, ev_and, ev_or, ev_ite, ev_call, evs_nil, evs_cons, evs_star, ev_comp, ev_dcomp, evw_seq, evw_zip, evw_rngK, startR, bnd_ok, go_ok, seq_nx, seq_rt, exitS, prR, seesR, d_non, d_bl, d_int, d_str, d_tup, d_lst, d_scr, d_dct, d_ty, prS, bltS, tyS, boolR, oRes, oWd, walkS, fin, kit1, kit2, kit3, kit4, lenS, lim, sizeLine_eq, cmpS, bindT, setAll, ltS, h9, hfar]
    · rw [if_neg h9] at hfar
      simp [exs, ex, evT, ev_nm, ev_cst, ev_pr, ev_and, ev_or, ev_ite, ev_call, evs_nil, evs_cons, evs_star, ev_comp, ev_dcomp, evw_seq, evw_zip, evw_rngK, startR, bnd_ok, go_ok, seq_nx, seq_rt, exitS, prR, seesR, d_non, d_bl, d_int, d_str, d_tup, d_lst, d_scr, d_dct, d_ty, prS, bltS, tyS, boolR, oRes, oWd, walkS, fin, kit1, kit2, kit3, kit4, lenS, lim, sizeLine_eq, cmpS, bindT, setAll, ltS, h9, hfar]
  refine run_nx [some (.loc pre.length), some (.int 7), some (.int 20), some (eN es), some (.int sz), some (.int far), some (.tup true (js0.map eJ)), none] m5 ?_ ?_
  · simp [exs, ex, evT, ev_nm, ev_cst, ev_pr, ev_and, ev_or, ev_ite, ev_call, evs_nil, evs_cons, evs_star, ev_comp, ev_dcomp, evw_seq, evw_zip, evw_rngK, startR, bnd_ok, go_ok, seq_nx, seq_rt, exitS, prR, seesR, d_non, d_bl, d_int, d_str, d_tup, d_lst, d_scr, d_dct, d_ty, prS, bltS, tyS, boolR, oRes, oWd, walkS, fin, kit1, kit2, kit3, kit4, lenS, lim, sizeLine_eq, cmpS, bindT, setAll, binS.eq_1, e4, e5']
  refine run_or (fun ρ' m' => ∃ (N : Nat) (js : List J4) (rk : Str → Nat), ρ' = [some (.loc pre.length), some (.int 7), some (.int 20), some (eN es), some (.int sz), some (.int far), some (.tup true (js.map eJ)), none] ∧ Sk pre N r m' ∧ N ≤ M + 400 ∧ Js es js rk) ?_ ?_
  · by_cases h40 : sz < 40
    · obtain ⟨d6, m6, e6, hd6, h6⟩ := sk_dip (k + 2) h5 3 (by omega) (by omega) (by omega)
      obtain ⟨js, rk, m7, e7, h7, hjs⟩ := p_law_jobs (k + 1) h6 hr es hws.2.2 (by omega) (1 + d6) (by omega) sz (by omega) (by omega) (by omega)
      have e7' : Lv T (k + 3) (PySem.Str.ofString "_law_jobs") [.loc pre.length, eN es, .int (1 + (d6 : Int)), .int sz] m6 = .ok (.tup true (js.map eJ)) m7 := by simpa using e7
      refine .inr ⟨m5, ?_, run_nx [some (.loc pre.length), some (.int 7), some (.int 20), some (eN es), some (.int sz), some (.int far), some (.tup true (js.map eJ)), none] m7 ?_ (run_nil ⟨_, _, rfl, _, js, rk, rfl, h7, by omega, hjs⟩)⟩
      · simp [exs, ex, evT, ev_nm, ev_cst, ev_pr, ev_and, ev_or, ev_ite, ev_call, evs_nil, evs_cons, evs_star, ev_comp, ev_dcomp, evw_seq, evw_zip, evw_rngK, startR, bnd_ok, go_ok, seq_nx, seq_rt, exitS, prR, seesR, d_non, d_bl, d_int, d_str, d_tup, d_lst, d_scr, d_dct, d_ty, prS, bltS, tyS, boolR, oRes, oWd, walkS, fin, kit1, kit2, kit3, kit4, lenS, lim, sizeLine_eq, cmpS, bindT, setAll, ltS, h40]
      · simp [exs, ex, evT, ev_nm, ev_cst, ev_pr, ev_and, ev_or, ev_ite, ev_call, evs_nil, evs_cons, evs_star, ev_comp, ev_dcomp, evw_seq, evw_zip, evw_rngK, startR, bnd_ok, go_ok, seq_nx, seq_rt, exitS, prR, seesR, d_non, d_bl, d_int, d_str, d_tup, d_lst, d_scr, d_dct, d_ty, prS, bltS, tyS, boolR, oRes, oWd, walkS, fin, kit1, kit2, kit3, kit4, lenS, lim, sizeLine_eq, cmpS, bindT, setAll, binS.eq_1, e6, e7']
    · refine .inl ⟨m5, ?_, run_nil ⟨_, _, rfl, _, js0, rk0, rfl, h5, by omega, hjs0⟩⟩
      simp [exs, ex, evT, ev_nm, ev_cst, ev_pr, ev_and, ev_or, ev_ite, ev_call, evs_nil, evs_cons, evs_star, ev_comp, ev_dcomp, evw_seq, evw_zip, evw_rngK, startR, bnd_ok, go_ok, seq_nx, seq_rt, exitS, prR, seesR, d_non, d_bl, d_int, d_str, d_tup, d_lst, d_scr, d_dct, d_ty, prS, bltS, tyS, boolR, oRes, oWd, walkS, fin, kit1, kit2, kit3, kit4, lenS, lim, sizeLine_eq, cmpS, bindT, setAll, ltS, h40]
  rintro ρ' m6 ⟨N6, js, rk, rfl, h6, hN6, hjs⟩
  obtain ⟨d8, m8, e8, hd8, h8⟩ := sk_dip (k + 2) h6 2 (by omega) (by omega) (by omega)
  obtain ⟨gl, egl, hgl⟩ : ∃ gl : Int, itemS (.lst [.int 6, .int far]) (.int (d8 : Nat)) = some (.int gl) ∧ 0 < gl ∧ gl < 900 := by
    have : d8 = 0 ∨ d8 = 1 := by omega
    rcases this with rfl | rfl
    · exact ⟨6, rfl, by omega, by omega⟩
    · exact ⟨far, rfl, by omega, by omega⟩
  obtain ⟨bs, m9, e9, h9, hbs⟩ := p_few_limits (k + 1) h8 hr es (by omega) 10 (by omega) gl hgl.1 hgl.2 (by omega)
  have e9' : Lv T (k + 3) (PySem.Str.ofString "_law_few_limits") [.loc pre.length, eN es, .int 10, .int gl] m8 = .ok (.tup true (bs.map eB)) m9 := e9
  refine run_nx [some (.loc pre.length), some (.int 7), some (.int 20), some (eN es), some (.int sz), some (.int far), some (.tup true (js.map eJ)), some (.tup true (bs.map eB))] m9 ?_ ?_
  · simp [exs, ex, evT, ev_nm, ev_cst, ev_pr, ev_and, ev_or, ev_ite, ev_call, evs_nil, evs_cons, evs_star, ev_comp, ev_dcomp, evw_seq, evw_zip, evw_rngK, startR, bnd_ok, go_ok, seq_nx, seq_rt, exitS, prR, seesR, d_non, d_bl, d_int, d_str, d_tup, d_lst, d_scr, d_dct, d_ty, prS, bltS, tyS, boolR, oRes, oWd, walkS, fin, kit1, kit2, kit3, kit4, lenS, lim, sizeLine_eq, cmpS, bindT, setAll, e8, egl, e9']
  obtain ⟨d10, m10, e10, hd10, h10⟩ := sk_dip (k + 2) h9 (far - 5) (by omega) (by omega) (by omega)
  refine run_ret (p := eP (far - (d10 : Int)) es bs js) (m' := m10) ?_ ⟨_, es, bs, js, rk, m10, rfl, h10.mono (by omega), dp_mk (by omega) hws hel hbs hjs⟩
  simp [exs, ex, evT, ev_nm, ev_cst, ev_pr, ev_and, ev_or, ev_ite, ev_call, evs_nil, evs_cons, evs_star, ev_comp, ev_dcomp, evw_seq, evw_zip, evw_rngK, startR, bnd_ok, go_ok, seq_nx, seq_rt, exitS, prR, seesR, d_non, d_bl, d_int, d_str, d_tup, d_lst, d_scr, d_dct, d_ty, prS, bltS, tyS, boolR, oRes, oWd, walkS, fin, kit1, kit2, kit3, kit4, lenS, lim, sizeLine_eq, cmpS, bindT, setAll, binS.eq_5, e10, eP]
end Sn.Lk08
namespace Sn.Lk08
open PySem PySem.Spec PyProof.Rows L2
variable {lt : Int} {es : List Str} {bs : List B3} {js : List J4} {rk : Str → Nat}
/-! ### moments: None or a number for each event -/
def Mv (x : PV) : Prop := x = .non ∨ ∃ i : Int, x = .int i
def Mt (es : List Str) (p : PV) : Prop := ∃ g xs, p = .tup g xs ∧ xs.length = es.length ∧ ∀ x ∈ xs, Mv x
def wv (es : List Str) (xs : List PV) (p : Str) : PV := ((es.findIdx? fun y => decide (y = p)).bind (xs[·]?)).getD .non
theorem Mv.drf {x : PV} (h : Mv x) (m : Mu) : drf m x = x := by
  rcases h with rfl | ⟨i, rfl⟩ <;> rfl
theorem wv_mv {xs : List PV} {p : Str} (h : ∀ x ∈ xs, Mv x) : Mv (wv es xs p) := by
  unfold wv
  cases (es.findIdx? fun y => decide (y = p)) with
  | none => exact .inl rfl
  | some i =>
    simp only [Option.bind_some]
    cases e : xs[i]? with
    | none => exact .inl rfl
    | some x => exact h x (List.mem_of_getElem? e)
theorem wv_at {xs : List PV} {p : Str} (hp : p ∈ es) (hl : xs.length = es.length) : ∃ i, (es.findIdx? fun y => decide (y = p)) = some i ∧ i < xs.length ∧ ∀ g, itemS (.tup g xs) (.int (i : Nat)) = some (wv es xs p) := by
  obtain ⟨i, e, hi⟩ := find_in hp
  refine ⟨i, e, by omega, fun g => ?_⟩
  show atI xs (i : Int) = _
  rw [at_gen (by omega)]
  have hi' : i < xs.length := by omega
  simp [wv, e, hi']
theorem p_worthV (k : Nat) {g : Bool} {xs : List PV} {p : Str} (m : Mu) (hp : p ∈ es) (hg : p ≠ (PySem.Str.ofString "go")) (hl : xs.length = es.length) : Lv T (k + 1) (PySem.Str.ofString "_law_worth") [eP lt es bs js, .tup g xs, .str p] m = .ok (wv es xs p) m := by
  rw [lv__law_worth _ _ rfl, bl__law_worth]
  obtain ⟨i, e1, _, e2⟩ := wv_at hp hl
  have e3 := e2 g
  simp [exs, ex, evT, ev_nm, ev_cst, ev_pr, ev_and, ev_or, ev_ite, ev_call, evs_nil, evs_cons, evs_star, ev_comp, ev_dcomp, evw_seq, evw_zip, evw_rngK, startR, bnd_ok, go_ok, seq_nx, seq_rt, exitS, prR, seesR, d_non, d_bl, d_int, d_str, d_tup, d_lst, d_scr, d_dct, d_ty, prS, bltS, tyS, boolR, oRes, oWd, walkS, fin, kit1, kit2, kit3, kit4, lenS, lim, sizeLine_eq, cmpS, bindT, setAll, ev_idx, eq_strs, hg, drf_eP, item1, eN, all_strs, e1, e3]
theorem p_momentV (k : Nat) {g : Bool} {xs : List PV} {p : Str} (m : Mu) (hp : p ∈ es) (hg : p ≠ (PySem.Str.ofString "go")) (hl : xs.length = es.length) : Lv T (k + 1) (PySem.Str.ofString "moment_of") [eP lt es bs js, .tup g xs, .str p] m = .ok (wv es xs p) m := by
  rw [lv_moment_of _ _ rfl, bl_moment_of]
  obtain ⟨i, e1, _, e2⟩ := wv_at hp hl
  have e3 := e2 g
  simp [exs, ex, evT, ev_nm, ev_cst, ev_pr, ev_and, ev_or, ev_ite, ev_call, evs_nil, evs_cons, evs_star, ev_comp, ev_dcomp, evw_seq, evw_zip, evw_rngK, startR, bnd_ok, go_ok, seq_nx, seq_rt, exitS, prR, seesR, d_non, d_bl, d_int, d_str, d_tup, d_lst, d_scr, d_dct, d_ty, prS, bltS, tyS, boolR, oRes, oWd, walkS, fin, kit1, kit2, kit3, kit4, lenS, lim, sizeLine_eq, cmpS, bindT, setAll, ev_idx, eq_strs, hg, drf_eP, item1, eN, all_strs, e1, e3]
theorem cutP_to (xs : List PV) (i : Nat) : cutP xs none (some (i : Int)) = xs.take i := by
  unfold cutP
  rw [HT.sIx_nat, show HT.sIx xs.length 0 none = 0 from rfl, List.drop_zero, Nat.sub_zero]
  rcases Nat.le_total i xs.length with h | h
  · rw [Nat.min_eq_left h]
  · rw [Nat.min_eq_right h, List.take_length, List.take_of_length_le h]
theorem cutP_from (xs : List PV) (i : Nat) : cutP xs (some (i : Int)) none = xs.drop i := by
  unfold cutP
  rw [HT.sIx_nat, show HT.sIx xs.length xs.length none = xs.length from rfl]
  rcases Nat.le_total i xs.length with h | h
  · rw [Nat.min_eq_left h]
    exact List.take_of_length_le (by rw [List.length_drop]; omega)
  · rw [Nat.min_eq_right h, List.drop_length, List.drop_of_length_le h]
    simp
theorem add_tup {g g' : Bool} {xs ys : List PV} (h : xs.length + ys.length ≤ 16777216) : ∃ g2, binS .Add (.tup g xs) (.tup g' ys) = some (.tup g2 (xs ++ ys)) := by
  have e : ∀ p : PV, lim (xs.length + ys.length) p = some p := fun p => by
    unfold lim
    rw [sizeLine_eq, if_pos h]
  exact ⟨_, e _⟩
theorem cut_tup {g : Bool} {xs : List PV} (lo hi : Option Int) : ∃ g2, cutS lo hi (.tup g xs) = some (.tup g2 (cutP xs lo hi)) := ⟨_, rfl⟩
theorem p_law_put (k : Nat) {q : PV} {p : Str} {x : PV} (m : Mu) (hp : p ∈ es) (hq : Mt es q) (hx : Mv x) (he : es.length ≤ 100) : ∃ y, Lv T (k + 1) (PySem.Str.ofString "_law_put") [eP lt es bs js, q, .str p, x] m = .ok y m ∧ Mt es y := by
  obtain ⟨g, xs, rfl, hl, hv⟩ := hq
  obtain ⟨i, e1, hi⟩ := find_in hp
  rw [lv__law_put _ _ rfl, bl__law_put]
  obtain ⟨g1, c1⟩ := cut_tup (g := g) (xs := xs) none (some (i : Int))
  obtain ⟨g2, c2⟩ := cut_tup (g := g) (xs := xs) (some ((i : Int) + 1)) none
  rw [cutP_to] at c1
  have c2' := cutP_from xs (i + 1)
  rw [show (((i + 1 : Nat)) : Int) = (i : Int) + 1 by omega] at c2'
  rw [c2'] at c2
  obtain ⟨g3, c3⟩ := add_tup (g := g1) (g' := true) (xs := xs.take i) (ys := [x]) (by rw [List.length_take]; simp; omega)
  obtain ⟨g4, c4⟩ := add_tup (g := g3) (g' := g2) (xs := xs.take i ++ [x]) (ys := xs.drop (i + 1)) (by rw [List.length_append, List.length_take, List.length_drop]; simp; omega)
  have hxd := hx.drf
  refine ⟨.tup g4 (xs.take i ++ [x] ++ xs.drop (i + 1)), ?_, ⟨_, _, rfl, by rw [List.length_append, List.length_append, List.length_singleton, List.length_take, List.length_drop]; omega, fun z hz => ?_⟩⟩
  · simp only [List.append_assoc] at c4 ⊢
    simp [exs, ex, evT, ev_nm, ev_cst, ev_pr, ev_and, ev_or, ev_ite, ev_call, evs_nil, evs_cons, evs_star, ev_comp, ev_dcomp, evw_seq, evw_zip, evw_rngK, startR, bnd_ok, go_ok, seq_nx, seq_rt, exitS, prR, seesR, d_non, d_bl, d_int, d_str, d_tup, d_lst, d_scr, d_dct, d_ty, prS, bltS, tyS, boolR, oRes, oWd, walkS, fin, kit1, kit2, kit3, kit4, lenS, lim, sizeLine_eq, cmpS, bindT, setAll, ev_idx, drf_eP, item1, eN, all_strs, e1, c1, c2, c3, c4, binS.eq_1, -List.append_assoc, -List.singleton_append, -List.cons_append, -List.nil_append]
  · rcases List.mem_append.mp hz with h | h
    · rcases List.mem_append.mp h with h | h
      · exact hv z (List.mem_of_mem_take h)
      · rw [List.mem_singleton.mp h]; exact hx
    · exact hv z (List.mem_of_mem_drop h)
end Sn.Lk08
namespace Sn.Lk08
open PySem PySem.Spec PyProof.Rows L2
variable {lt : Int} {es : List Str} {bs : List B3} {js : List J4} {rk : Str → Nat}
/-- rows of moments -/
def Ms (es : List Str) (ys : List PV) : Prop := ∀ y ∈ ys, Mt es y
theorem Mt.drf {y : PV} (h : Mt es y) (m : Mu) : drf m y = y := by
  obtain ⟨g, xs, rfl, _⟩ := h
  rfl
def oursL (es : List Str) (js : List J4) : List Str := es.filter fun e => decide (e ∉ ends js)
theorem p_law_own (k : Nat) (m : Mu) (he : es.length ≤ 100) (hj : js.length ≤ 100) : Lv T (k + 1) (PySem.Str.ofString "_law_own") [eP lt es bs js] m = .ok (.lst ((oursL es js).map .str)) m := by
  have hl2 : es.length ≤ 16777216 := by omega
  have hl3 : js.length ≤ 16777216 := by omega
  have hw : collect (stepC (Lv T k) (.nm 2) [2] (.cst (.bl true)) (.pr .item (.cons false (.nm 2) (.cons false (.cst (.int 1)) .nil))) [some (eP lt es bs js), none, none, none]) (keeps [] m) (js.map eJ) m = .ok ((ends js).map .str) m := by
    rw [collect_map (g := fun p => match p with | .tup _ [.str a, .str b, .int _, .int _] => .str b | p => p) (keeps_nil m m) fun y hy => ?_]
    · unfold ends
      rw [List.map_map, List.map_map]
      rfl
    · obtain ⟨j, hj, rfl⟩ := List.mem_map.mp hy
      simp [stepC, stepD, bindT, wipeR, setAll, noX, ev, evs, bnd_ok, boolR, prR, seesR, d_non, d_bl, d_int, d_str, d_tup, d_lst, d_scr, d_dct, d_ty, prS, bltS, cmpS, oRes, eJ, itemS, atI, ixN]
  have hc : collect (stepC (Lv T k) (.nm 3) [3] (.pr (.cmp .NotIn) (.cons false (.nm 3) (.cons false (.nm 1) .nil))) (.nm 3) [some (eP lt es bs js), some (.lst ((ends js).map .str)), none, none]) (keeps [] m) (es.map .str) m = .ok (((es.map PV.str).filter fun p => match p with | .str e => decide (e ∉ ends js) | _ => false).map id) m := by
    refine collect_filter (keeps_nil m m) fun y hy => ?_
    obtain ⟨e, he, rfl⟩ := List.mem_map.mp hy
    have hi := in_lstrs e (ends js)
    by_cases hx : e ∈ ends js <;> simp [stepC, stepD, bindT, wipeR, setAll, noX, ev, evs, bnd_ok, boolR, prR, seesR, d_non, d_bl, d_int, d_str, d_tup, d_lst, d_scr, d_dct, d_ty, prS, bltS, cmpS, oRes, hi, hx]
  have hf : (((es.map PV.str).filter fun p => match p with | .str e => decide (e ∉ ends js) | _ => false).map id) = (oursL es js).map .str := by
    rw [List.map_id, List.filter_map]
    rfl
  rw [hf] at hc
  rw [lv__law_own _ _ rfl, bl__law_own]
  simp [exs, ex, evT, ev_nm, ev_cst, ev_pr, ev_and, ev_or, ev_ite, ev_call, evs_nil, evs_cons, evs_star, ev_comp, ev_dcomp, evw_seq, evw_zip, evw_rngK, startR, bnd_ok, go_ok, seq_nx, seq_rt, exitS, prR, seesR, d_non, d_bl, d_int, d_str, d_tup, d_lst, d_scr, d_dct, d_ty, prS, bltS, tyS, boolR, oRes, oWd, walkS, fin, kit1, kit2, kit3, kit4, lenS, lim, sizeLine_eq, cmpS, bindT, setAll, drf_eP, item1, item3, eN, hl2, hl3, hw, hc]
theorem p_puts (k : Nat) {ys : List PV} {p : Str} {x : PV} (m : Mu) (ρ : Rho) (a s : Nat) (b : Nat) (c : Nat) (hρ : c < ρ.length) (hρ0 : ρ[0]? = some (some (eP lt es bs js))) (hp : p ∈ es) (hys : Ms es ys) (hx : Mv x) (he : es.length ≤ 100) (ha : ρ[a]? = some (some (.str p))) (hb : ρ[b]? = some (some x)) (hca : c ≠ a) (hcb : c ≠ b) (hc0 : c ≠ 0) :
    ∃ zs, collect (stepC (Lv T (k + 1)) (.nm c) [c] (.cst (.bl true)) (.call (PySem.Str.ofString "_law_put") (.cons false (.nm 0) (.cons false (.nm c) (.cons false (.nm a) (.cons false (.nm b) .nil))))) ρ) (keeps [] m) ys m = .ok zs m ∧ zs.length = ys.length ∧ Ms es zs := by
  have := collect_inv (f := stepC (Lv T (k + 1)) (.nm c) [c] (.cst (.bl true)) (.call (PySem.Str.ofString "_law_put") (.cons false (.nm 0) (.cons false (.nm c) (.cons false (.nm a) (.cons false (.nm b) .nil))))) ρ) (ok := keeps [] m) (P := fun _ m' => m' = m) (R := fun _ zs => ∃ z, zs = [z] ∧ Mt es z) (fun _ _ _ => keeps_nil _ _) (xs := ys) (i := 0) (m := m) rfl ?_
  · obtain ⟨yss, m', e1, rfl, e2, e3⟩ := this
    refine ⟨yss.flatten, e1, ?_, ?_⟩
    · rw [← e2]
      have : ∀ zs ∈ yss, ∃ z, zs = [z] ∧ Mt es z := fun zs hz => by
        obtain ⟨i, hi, rfl⟩ := List.mem_iff_getElem.mp hz
        exact e3 (ys[i]'(by omega), yss[i]) (List.mem_iff_getElem.mpr ⟨i, by rw [List.length_zip]; omega, by simp⟩)
      clear e1 e2 e3
      induction yss with
      | nil => rfl
      | cons z r ih =>
        obtain ⟨y, rfl, _⟩ := this z (by simp)
        simp [ih fun zs hz => this zs (by simp [hz])]
    · intro y hy
      obtain ⟨zs, hz, hy⟩ := List.mem_flatten.mp hy
      obtain ⟨i, hi, rfl⟩ := List.mem_iff_getElem.mp hz
      obtain ⟨z, ez, hm⟩ := e3 (ys[i]'(by omega), yss[i]) (List.mem_iff_getElem.mpr ⟨i, by rw [List.length_zip]; omega, by simp⟩)
      simp only at ez
      rw [ez] at hy
      rw [List.mem_singleton.mp hy]
      exact hm
  · rintro y hy i m' rfl
    obtain ⟨z, ez, hz⟩ := p_law_put k (lt := lt) (bs := bs) (js := js) m' hp (hys y hy) hx he
    refine ⟨[z], m', ?_, ⟨z, rfl, hz⟩, rfl⟩
    have g0 : (ρ.set c (some y))[0]? = some (some (eP lt es bs js)) := by rw [List.getElem?_set_ne (by omega)]; exact hρ0
    have ga : (ρ.set c (some y))[a]? = some (some (.str p)) := by rw [List.getElem?_set_ne (by omega)]; exact ha
    have gb : (ρ.set c (some y))[b]? = some (some x) := by rw [List.getElem?_set_ne (by omega)]; exact hb
    have gc : (ρ.set c (some y))[c]? = some (some y) := by rw [List.getElem?_set_self hρ]
    simp [stepC, bindT, wipeR, noX, ev_nm, ev_cst, ev_call, evs_cons, evs_nil, bnd_ok, boolR, List.set_set, g0, ga, gb, gc, ez]
end Sn.Lk08
namespace Sn.Lk08
open PySem PySem.Spec PyProof.Rows L2
variable {lt : Int} {es : List Str} {bs : List B3} {js : List J4} {rk : Str → Nat} {pre : Mu}
def isN : PV → Bool
  | .non => true
  | _ => false
theorem is_non (x : PV) : isS x .non = some (isN x) := by
  cases x <;> rfl
theorem isN_eq {x : PV} (h : isN x = true) : x = .non := by
  cases x <;> first | rfl | (simp [isN] at h)
theorem exit_same {fr : Bool} {p : PV} {m m' : Mu} (h : m'.length ≤ m.length) (hl : ∀ l, p ≠ .loc l) : exitS fr m.length (.rt p m') = .ok p m' := by
  have h1 := fin_same (p := p) h
  cases fr with
  | false => exact h1
  | true =>
    show finK m.length p m' = _
    unfold finK
    split
    · exact absurd rfl (hl _)
    · exact h1
abbrev sR8 (lt : Int) (es : List Str) (bs : List B3) (js : List J4) (now : Int) (q : PV) (ys : List PV) (x4 x5 : Option PV) : Rho := [some (eP lt es bs js), some (.int now), some q, some (.lst ys), x4, x5]
theorem p_law_starts (k : Nat) {q : PV} (m : Mu) (now : Int) (hd : DP lt es bs js rk) (hq : Mt es q) : ∃ ys, Lv T (k + 2) (PySem.Str.ofString "_law_starts") [eP lt es bs js, .int now, q] m = .ok (.lst ys) m ∧ 1 ≤ ys.length ∧ ys.length ≤ 128 ∧ Ms es ys := by
  have hel := hd.el
  have hjl := hd.jl
  rw [lv__law_starts _ _ rfl, bl__law_starts]
  suffices hh : Run (Lv T (k + 1)) _ (startR 6 [eP lt es bs js, .int now, q]) m fun x => ∃ ys, x = .rt (.lst ys) m ∧ 1 ≤ ys.length ∧ ys.length ≤ 128 ∧ Ms es ys by
    obtain ⟨ys, e, h⟩ := hh
    refine ⟨ys, ?_, h⟩
    rw [e]
    exact exit_same (Nat.le_refl _) (fun _ => by simp)
  refine run_nx (sR8 lt es bs js now q [q] none none) m (by simp [exs, ex, evT, ev_nm, ev_cst, ev_pr, ev_and, ev_or, ev_ite, ev_call, evs_nil, evs_cons, evs_star, ev_comp, ev_dcomp, evw_seq, evw_zip, evw_rngK, startR, bnd_ok, go_ok, seq_nx, seq_rt, exitS, prR, seesR, d_non, d_bl, d_int, d_str, d_tup, d_lst, d_scr, d_dct, d_ty, prS, bltS, tyS, boolR, oRes, oWd, walkS, fin, kit1, kit2, kit3, kit4, lenS, lim, sizeLine_eq, cmpS, bindT, setAll]) ?_
  have ho := p_law_own k (lt := lt) (bs := bs) (es := es) (js := js) m (by omega) (by omega)
  refine run_for (m1 := m) (xs := (oursL es js).map .str) (ws := []) (fun i ρ m' => m' = m ∧ ∃ ys x4 x5, ρ = sR8 lt es bs js now q ys x4 x5 ∧ 1 ≤ ys.length ∧ ys.length ≤ 2 ^ i ∧ Ms es ys) ?_ (fun _ _ _ _ => keeps_nil _ _) ⟨rfl, [q], none, none, rfl, by simp, by simp, fun y hy => by rw [List.mem_singleton.mp hy]; exact hq⟩ ?_ ?_
  · simp [exs, ex, evT, ev_nm, ev_cst, ev_pr, ev_and, ev_or, ev_ite, ev_call, evs_nil, evs_cons, evs_star, ev_comp, ev_dcomp, evw_seq, evw_zip, evw_rngK, startR, bnd_ok, go_ok, seq_nx, seq_rt, exitS, prR, seesR, d_non, d_bl, d_int, d_str, d_tup, d_lst, d_scr, d_dct, d_ty, prS, bltS, tyS, boolR, oRes, oWd, walkS, fin, kit1, kit2, kit3, kit4, lenS, lim, sizeLine_eq, cmpS, bindT, setAll, ho]
  · rintro j x hx ρ m' ⟨rfl, ys, x4, x5, rfl, hl1, hl2, hys⟩
    rw [List.getElem?_map] at hx
    obtain ⟨p, hpx, rfl⟩ := Option.map_eq_some_iff.mp hx
    have hj : j < (oursL es js).length := (List.getElem?_eq_some_iff.mp hpx).1
    have hjl : j < 7 := Nat.lt_of_lt_of_le hj (Nat.le_trans (List.length_filter_le _ _) hel)
    have hp : p ∈ es := (List.mem_filter.mp (List.mem_of_getElem? hpx)).1
    have hys2 : ys.length ≤ 128 := Nat.le_trans hl2 (Nat.le_trans (Nat.pow_le_pow_right (by omega) (show j ≤ 7 by omega)) (by decide))
    refine ⟨_, rfl, ?_⟩
    obtain ⟨g, xs, rfl, hxl, hxv⟩ := id hq
    have hw := p_worthV k (lt := lt) (bs := bs) (js := js) (g := g) (xs := xs) m' hp (hd.vp.nms p hp).go hxl
    have hv := wv_mv (es := es) (p := p) hxv
    have hi := is_non (wv es xs p)
    have hdr := hv.drf m'
    refine run_or (fun ρ' m2 => m2 = m' ∧ ∃ ys x4 x5, ρ' = sR8 lt es bs js now (.tup g xs) ys x4 x5 ∧ 1 ≤ ys.length ∧ ys.length ≤ 2 ^ (j + 1) ∧ Ms es ys) ?_ fun ρ' m2 h => run_nil ⟨ρ', m2, rfl, h⟩
    by_cases hnn : isN (wv es xs p) = true
    · have hn := isN_eq hnn
      obtain ⟨zs, ez, hz1, hz2⟩ := p_puts k (lt := lt) (bs := bs) (js := js) (x := .int now) m' (sR8 lt es bs js now (.tup g xs) ys (some (.str p)) x5) 4 0 1 5 (by simp) rfl hp hys (.inr ⟨_, rfl⟩) (by omega) rfl rfl (by omega) (by omega) (by omega)
      refine .inr ⟨m', ?_, run_nx (sR8 lt es bs js now (.tup g xs) (ys ++ zs) (some (.str p)) x5) m' ?_ (run_nil ⟨_, _, rfl, rfl, _, _, _, rfl, ?_, ?_, ?_⟩)⟩
      · rw [hn] at hw
        simp [exs, ex, evT, ev_nm, ev_cst, ev_pr, ev_and, ev_or, ev_ite, ev_call, evs_nil, evs_cons, evs_star, ev_comp, ev_dcomp, evw_seq, evw_zip, evw_rngK, startR, bnd_ok, go_ok, seq_nx, seq_rt, exitS, prR, seesR, d_non, d_bl, d_int, d_str, d_tup, d_lst, d_scr, d_dct, d_ty, prS, bltS, tyS, boolR, oRes, oWd, walkS, fin, kit1, kit2, kit3, kit4, lenS, lim, sizeLine_eq, cmpS, bindT, setAll, hw, isS]
      · have hs1 : ys.length ≤ 16777216 := by omega
        have hs2 : ys.length + zs.length ≤ 16777216 := by omega
        simp only [sR8] at ez
        simp [exs, ex, evT, ev_nm, ev_cst, ev_pr, ev_and, ev_or, ev_ite, ev_call, evs_nil, evs_cons, evs_star, ev_comp, ev_dcomp, evw_seq, evw_zip, evw_rngK, startR, bnd_ok, go_ok, seq_nx, seq_rt, exitS, prR, seesR, d_non, d_bl, d_int, d_str, d_tup, d_lst, d_scr, d_dct, d_ty, prS, bltS, tyS, boolR, oRes, oWd, walkS, fin, kit1, kit2, kit3, kit4, lenS, lim, sizeLine_eq, cmpS, bindT, setAll, ez, hs1, hs2, binS]
      · simp; omega
      · rw [List.length_append, hz1, Nat.pow_succ]; omega
      · intro y hy
        rcases List.mem_append.mp hy with h | h
        · exact hys y h
        · exact hz2 y h
    · refine .inl ⟨m', ?_, run_nil ⟨_, _, rfl, rfl, ys, _, _, rfl, hl1, by rw [Nat.pow_succ]; omega, hys⟩⟩
      simp only [Bool.not_eq_true] at hnn
      simp [exs, ex, evT, ev_nm, ev_cst, ev_pr, ev_and, ev_or, ev_ite, ev_call, evs_nil, evs_cons, evs_star, ev_comp, ev_dcomp, evw_seq, evw_zip, evw_rngK, startR, bnd_ok, go_ok, seq_nx, seq_rt, exitS, prR, seesR, d_non, d_bl, d_int, d_str, d_tup, d_lst, d_scr, d_dct, d_ty, prS, bltS, tyS, boolR, oRes, oWd, walkS, fin, kit1, kit2, kit3, kit4, lenS, lim, sizeLine_eq, cmpS, bindT, setAll, hw, hi, hdr, hnn]
  · rintro ρ' m' ⟨rfl, ys, x4, x5, rfl, hl1, hl2, hys⟩
    rw [List.length_map] at hl2
    have : (oursL es js).length ≤ 7 := Nat.le_trans (List.length_filter_le _ _) hel
    exact run_ret (p := .lst ys) (m' := m') (by simp [exs, ex, evT, ev_nm, ev_cst, ev_pr, ev_and, ev_or, ev_ite, ev_call, evs_nil, evs_cons, evs_star, ev_comp, ev_dcomp, evw_seq, evw_zip, evw_rngK, startR, bnd_ok, go_ok, seq_nx, seq_rt, exitS, prR, seesR, d_non, d_bl, d_int, d_str, d_tup, d_lst, d_scr, d_dct, d_ty, prS, bltS, tyS, boolR, oRes, oWd, walkS, fin, kit1, kit2, kit3, kit4, lenS, lim, sizeLine_eq, cmpS, bindT, setAll]) ⟨ys, rfl, hl1, Nat.le_trans hl2 (Nat.le_trans (Nat.pow_le_pow_right (by omega) this) (by decide)), hys⟩
abbrev tR8 (lt : Int) (es : List Str) (bs : List B3) (js : List J4) (now : Int) (q : PV) (ys : List PV) (x4 x5 x6 x7 x8 x9 x10 : Option PV) : Rho := [some (eP lt es bs js), some (.int now), some q, some (.lst ys), x4, x5, x6, x7, x8, x9, x10]
theorem ge_or (a b : Int) : cmpS .GtE (.int a) (.int b) = some (decide (b ≤ a)) := by
  simp only [cmpS, ltS, Option.map_some]
  congr 1
  by_cases h : a < b
  · have : ¬ b ≤ a := by omega
    simp [h, this]
  · have : b ≤ a := by omega
    simp [h, this]
theorem p_law_stops (k : Nat) {q : PV} (m : Mu) (now : Int) (hd : DP lt es bs js rk) (hq : Mt es q) : ∃ ys, Lv T (k + 2) (PySem.Str.ofString "_law_stops") [eP lt es bs js, .int now, q] m = .ok (.lst ys) m ∧ 1 ≤ ys.length ∧ ys.length ≤ 128 ∧ Ms es ys := by
  have hel := hd.el
  have hjl := hd.jl
  rw [lv__law_stops _ _ rfl, bl__law_stops]
  suffices hh : Run (Lv T (k + 1)) _ (startR 11 [eP lt es bs js, .int now, q]) m fun x => ∃ ys, x = .rt (.lst ys) m ∧ 1 ≤ ys.length ∧ ys.length ≤ 128 ∧ Ms es ys by
    obtain ⟨ys, e, h⟩ := hh
    refine ⟨ys, ?_, h⟩
    rw [e]
    exact exit_same (Nat.le_refl _) (fun _ => by simp)
  refine run_nx (tR8 lt es bs js now q [q] none none none none none none none) m (by simp [exs, ex, evT, ev_nm, ev_cst, ev_pr, ev_and, ev_or, ev_ite, ev_call, evs_nil, evs_cons, evs_star, ev_comp, ev_dcomp, evw_seq, evw_zip, evw_rngK, startR, bnd_ok, go_ok, seq_nx, seq_rt, exitS, prR, seesR, d_non, d_bl, d_int, d_str, d_tup, d_lst, d_scr, d_dct, d_ty, prS, bltS, tyS, boolR, oRes, oWd, walkS, fin, kit1, kit2, kit3, kit4, lenS, lim, sizeLine_eq, cmpS, bindT, setAll]) ?_
  refine run_for (m1 := m) (xs := js.map eJ) (ws := []) (fun i ρ m' => m' = m ∧ ∃ ys x4 x5 x6 x7 x8 x9 x10, ρ = tR8 lt es bs js now q ys x4 x5 x6 x7 x8 x9 x10 ∧ 1 ≤ ys.length ∧ ys.length ≤ 2 ^ i ∧ Ms es ys) ?_ (fun _ _ _ _ => keeps_nil _ _) ⟨rfl, [q], none, none, none, none, none, none, none, rfl, by simp, by simp, fun y hy => by rw [List.mem_singleton.mp hy]; exact hq⟩ ?_ ?_
  · have hsz : js.length ≤ 16777216 := by omega
    simp [exs, ex, evT, ev_nm, ev_cst, ev_pr, ev_and, ev_or, ev_ite, ev_call, evs_nil, evs_cons, evs_star, ev_comp, ev_dcomp, evw_seq, evw_zip, evw_rngK, startR, bnd_ok, go_ok, seq_nx, seq_rt, exitS, prR, seesR, d_non, d_bl, d_int, d_str, d_tup, d_lst, d_scr, d_dct, d_ty, prS, bltS, tyS, boolR, oRes, oWd, walkS, fin, kit1, kit2, kit3, kit4, lenS, lim, sizeLine_eq, cmpS, bindT, setAll, drf_eP, item3, hsz]
  · rintro i x hx ρ m' ⟨rfl, ys, x4, x5, x6, x7, x8, x9, x10, rfl, hl1, hl2, hys⟩
    rw [List.getElem?_map] at hx
    obtain ⟨j, hjx, rfl⟩ := Option.map_eq_some_iff.mp hx
    have hi : i < js.length := (List.getElem?_eq_some_iff.mp hjx).1
    have hjm := List.mem_of_getElem? hjx
    have hj := hd.vp.jok j hjm
    have hys2 : ys.length ≤ 128 := Nat.le_trans hl2 (Nat.le_trans (Nat.pow_le_pow_right (by omega) (show i ≤ 7 by omega)) (by decide))
    refine ⟨_, rfl, ?_⟩
    obtain ⟨g, xs, rfl, hxl, hxv⟩ := id hq
    have hw1 := p_worthV k (lt := lt) (bs := bs) (js := js) (g := g) (xs := xs) m' hj.1 (hd.vp.nms _ hj.1).go hxl
    have hw2 := p_worthV k (lt := lt) (bs := bs) (js := js) (g := g) (xs := xs) m' hj.2.1 (hd.vp.nms _ hj.2.1).go hxl
    have hv1 := wv_mv (es := es) (p := j.1) hxv
    have hv2 := wv_mv (es := es) (p := j.2.1) hxv
    have hi2 := is_non (wv es xs j.2.1)
    have hd1 := hv1.drf m'
    have hd2 := hv2.drf m'
    generalize wv es xs j.1 = first at *
    generalize wv es xs j.2.1 = last at *
    refine run_nx (tR8 lt es bs js now (.tup g xs) ys (some (.str j.1)) (some (.str j.2.1)) (some (.int j.2.2.1)) (some (.int j.2.2.2)) (some first) x9 x10) m' (by simp [exs, ex, evT, ev_nm, ev_cst, ev_pr, ev_and, ev_or, ev_ite, ev_call, evs_nil, evs_cons, evs_star, ev_comp, ev_dcomp, evw_seq, evw_zip, evw_rngK, startR, bnd_ok, go_ok, seq_nx, seq_rt, exitS, prR, seesR, d_non, d_bl, d_int, d_str, d_tup, d_lst, d_scr, d_dct, d_ty, prS, bltS, tyS, boolR, oRes, oWd, walkS, fin, kit1, kit2, kit3, kit4, lenS, lim, sizeLine_eq, cmpS, bindT, setAll, hw1]) ?_
    refine run_or (fun ρ' m2 => m2 = m' ∧ ∃ ys x4 x5 x6 x7 x8 x9 x10, ρ' = tR8 lt es bs js now (.tup g xs) ys x4 x5 x6 x7 x8 x9 x10 ∧ 1 ≤ ys.length ∧ ys.length ≤ 2 ^ (i + 1) ∧ Ms es ys) ?_ fun ρ' m2 h => run_nil ⟨ρ', m2, rfl, h⟩
    refine Classical.byCases (p := evT (Lv T (k + 1)) (.and_ (.pr (.cmp .IsNot) (.cons false (.nm 8) (.cons false (.cst .non) .nil))) (.and_ (.pr (.cmp .Is) (.cons false (.call (PySem.Str.ofString "_law_worth") (.cons false (.nm 0) (.cons false (.nm 2) (.cons false (.nm 5) .nil)))) (.cons false (.cst .non) .nil))) (.pr (.cmp .GtE) (.cons false (.pr (.bin .Sub) (.cons false (.nm 1) (.cons false (.nm 8) .nil))) (.cons false (.nm 6) .nil))))) (tR8 lt es bs js now (.tup g xs) ys (some (.str j.1)) (some (.str j.2.1)) (some (.int j.2.2.1)) (some (.int j.2.2.2)) (some first) x9 x10) m' = .ok false m') (fun h => Or.inl ⟨m', h, run_nil ⟨_, _, rfl, rfl, ys, _, _, _, _, _, _, _, rfl, hl1, by rw [Nat.pow_succ]; omega, hys⟩⟩) fun hno' => ?_
    have hno : ∀ {P : Prop}, _ → P := fun h => absurd h hno'
    clear hno'
    rcases hv1 with rfl | ⟨f, rfl⟩
    · exact hno (by simp [exs, ex, evT, ev_nm, ev_cst, ev_pr, ev_and, ev_or, ev_ite, ev_call, evs_nil, evs_cons, evs_star, ev_comp, ev_dcomp, evw_seq, evw_zip, evw_rngK, startR, bnd_ok, go_ok, seq_nx, seq_rt, exitS, prR, seesR, d_non, d_bl, d_int, d_str, d_tup, d_lst, d_scr, d_dct, d_ty, prS, bltS, tyS, boolR, oRes, oWd, walkS, fin, kit1, kit2, kit3, kit4, lenS, lim, sizeLine_eq, cmpS, bindT, setAll, isS])
    by_cases hnn : isN last = true
    · have hn := isN_eq hnn
      by_cases hg : j.2.2.1 ≤ now - f
      · obtain ⟨zs, ez, hz1, hz2⟩ := p_puts k (lt := lt) (bs := bs) (js := js) (x := .int now) m' (tR8 lt es bs js now (.tup g xs) ys (some (.str j.1)) (some (.str j.2.1)) (some (.int j.2.2.1)) (some (.int j.2.2.2)) (some (.int f)) x9 x10) 5 0 1 10 (by simp) rfl hj.2.1 hys (.inr ⟨_, rfl⟩) (by omega) rfl rfl (by omega) (by omega) (by omega)
        refine .inr ⟨m', ?_, run_nx (tR8 lt es bs js now (.tup g xs) ys (some (.str j.1)) (some (.str j.2.1)) (some (.int j.2.2.1)) (some (.int j.2.2.2)) (some (.int f)) (some (.lst zs)) x10) m' ?_ ?_⟩
        · subst hn
          simp [exs, ex, evT, ev_nm, ev_cst, ev_pr, ev_and, ev_call, evs_nil, evs_cons, bnd_ok, prR, seesR, d_non, d_bl, d_int, prS, boolR, oRes, cmpS, isS, hw2, binS, ltS]
          omega
        · have hs1 : ys.length ≤ 16777216 := by omega
          simp only [tR8] at ez
          simp [exs, ex, evT, ev_nm, ev_cst, ev_pr, ev_and, ev_or, ev_ite, ev_call, evs_nil, evs_cons, evs_star, ev_comp, ev_dcomp, evw_seq, evw_zip, evw_rngK, startR, bnd_ok, go_ok, seq_nx, seq_rt, exitS, prR, seesR, d_non, d_bl, d_int, d_str, d_tup, d_lst, d_scr, d_dct, d_ty, prS, bltS, tyS, boolR, oRes, oWd, walkS, fin, kit1, kit2, kit3, kit4, lenS, lim, sizeLine_eq, cmpS, bindT, setAll, ez, hs1]
        · by_cases hg2 : j.2.2.2 ≤ now - f
          · refine run_nx (tR8 lt es bs js now (.tup g xs) zs (some (.str j.1)) (some (.str j.2.1)) (some (.int j.2.2.1)) (some (.int j.2.2.2)) (some (.int f)) (some (.lst zs)) x10) m' ?_ (run_nil ⟨_, _, rfl, rfl, zs, _, _, _, _, _, _, _, rfl, by omega, by rw [Nat.pow_succ]; omega, hz2⟩)
            have : ¬ now - f < j.2.2.2 := by omega
            simp [exs, ex, evT, ev_nm, ev_cst, ev_pr, ev_and, ev_or, ev_ite, ev_call, evs_nil, evs_cons, evs_star, ev_comp, ev_dcomp, evw_seq, evw_zip, evw_rngK, startR, bnd_ok, go_ok, seq_nx, seq_rt, exitS, prR, seesR, d_non, d_bl, d_int, d_str, d_tup, d_lst, d_scr, d_dct, d_ty, prS, bltS, tyS, boolR, oRes, oWd, walkS, fin, kit1, kit2, kit3, kit4, lenS, lim, sizeLine_eq, cmpS, bindT, setAll, binS, ltS, this]
          · have hs2 : ys.length + zs.length ≤ 16777216 := by omega
            refine run_nx (tR8 lt es bs js now (.tup g xs) (ys ++ zs) (some (.str j.1)) (some (.str j.2.1)) (some (.int j.2.2.1)) (some (.int j.2.2.2)) (some (.int f)) (some (.lst zs)) x10) m' ?_ (run_nil ⟨_, _, rfl, rfl, ys ++ zs, _, _, _, _, _, _, _, rfl, by simp; omega, by rw [List.length_append, hz1, Nat.pow_succ]; omega, fun y hy => ?_⟩)
            · have : now - f < j.2.2.2 := by omega
              simp [exs, ex, evT, ev_nm, ev_cst, ev_pr, ev_and, ev_or, ev_ite, ev_call, evs_nil, evs_cons, evs_star, ev_comp, ev_dcomp, evw_seq, evw_zip, evw_rngK, startR, bnd_ok, go_ok, seq_nx, seq_rt, exitS, prR, seesR, d_non, d_bl, d_int, d_str, d_tup, d_lst, d_scr, d_dct, d_ty, prS, bltS, tyS, boolR, oRes, oWd, walkS, fin, kit1, kit2, kit3, kit4, lenS, lim, sizeLine_eq, cmpS, bindT, setAll, binS, ltS, this, hs2]
            · rcases List.mem_append.mp hy with h | h
              · exact hys y h
              · exact hz2 y h
      · refine hno ?_
        subst hn
        have : now - f < j.2.2.1 := by omega
        simp [exs, ex, evT, ev_nm, ev_cst, ev_pr, ev_and, ev_or, ev_ite, ev_call, evs_nil, evs_cons, evs_star, ev_comp, ev_dcomp, evw_seq, evw_zip, evw_rngK, startR, bnd_ok, go_ok, seq_nx, seq_rt, exitS, prR, seesR, d_non, d_bl, d_int, d_str, d_tup, d_lst, d_scr, d_dct, d_ty, prS, bltS, tyS, boolR, oRes, oWd, walkS, fin, kit1, kit2, kit3, kit4, lenS, lim, sizeLine_eq, cmpS, bindT, setAll, isS, hw2, binS, ltS, this]
    · refine hno ?_
      rcases hv2 with rfl | ⟨v, rfl⟩
      · exact absurd rfl hnn
      · simp [exs, ex, evT, ev_nm, ev_cst, ev_pr, ev_and, ev_or, ev_ite, ev_call, evs_nil, evs_cons, evs_star, ev_comp, ev_dcomp, evw_seq, evw_zip, evw_rngK, startR, bnd_ok, go_ok, seq_nx, seq_rt, exitS, prR, seesR, d_non, d_bl, d_int, d_str, d_tup, d_lst, d_scr, d_dct, d_ty, prS, bltS, tyS, boolR, oRes, oWd, walkS, fin, kit1, kit2, kit3, kit4, lenS, lim, sizeLine_eq, cmpS, bindT, setAll, isS, hw2]
  · rintro ρ' m' ⟨rfl, ys, x4, x5, x6, x7, x8, x9, x10, rfl, hl1, hl2, hys⟩
    rw [List.length_map] at hl2
    exact run_ret (p := .lst ys) (m' := m') (by simp [exs, ex, evT, ev_nm, ev_cst, ev_pr, ev_and, ev_or, ev_ite, ev_call, evs_nil, evs_cons, evs_star, ev_comp, ev_dcomp, evw_seq, evw_zip, evw_rngK, startR, bnd_ok, go_ok, seq_nx, seq_rt, exitS, prR, seesR, d_non, d_bl, d_int, d_str, d_tup, d_lst, d_scr, d_dct, d_ty, prS, bltS, tyS, boolR, oRes, oWd, walkS, fin, kit1, kit2, kit3, kit4, lenS, lim, sizeLine_eq, cmpS, bindT, setAll]) ⟨ys, rfl, hl1, Nat.le_trans hl2 (Nat.le_trans (Nat.pow_le_pow_right (by omega) (show js.length ≤ 7 by omega)) (by decide)), hys⟩
end Sn.Lk08
namespace Sn.Lk08
open PySem PySem.Spec PyProof.Rows L2
variable {lt : Int} {es : List Str} {bs : List B3} {js : List J4} {rk : Str → Nat} {pre : Mu}
theorem p_law_nothing (k : Nat) (m : Mu) (hel : es.length ≤ 100) : Lv T (k + 1) (PySem.Str.ofString "_law_nothing") [eP lt es bs js] m = .ok (.tup true (List.replicate es.length .non)) m := by
  have hl2 : es.length ≤ 16777216 := by omega
  have hc : collect (stepC (Lv T k) (.nm 1) [1] (.cst (.bl true)) (.cst .non) [some (eP lt es bs js), none]) (keeps [] m) (es.map .str) m = .ok (List.replicate es.length .non) m := by
    rw [collect_map (g := fun _ => .non) (keeps_nil m m) fun y hy => by simp [stepC, stepD, bindT, wipeR, setAll, noX, ev, evs, bnd_ok, boolR, prR, seesR, d_non, d_bl, d_int, d_str, d_tup, d_lst, d_scr, d_dct, d_ty, prS, bltS, cmpS, oRes]]
    congr 1
    rw [List.map_map]
    exact List.map_const' ..
  rw [lv__law_nothing _ _ rfl, bl__law_nothing]
  simp [exs, ex, evT, ev_nm, ev_cst, ev_pr, ev_and, ev_or, ev_ite, ev_call, evs_nil, evs_cons, evs_star, ev_comp, ev_dcomp, evw_seq, evw_zip, evw_rngK, startR, bnd_ok, go_ok, seq_nx, seq_rt, exitS, prR, seesR, d_non, d_bl, d_int, d_str, d_tup, d_lst, d_scr, d_dct, d_ty, prS, bltS, tyS, boolR, oRes, oWd, walkS, fin, kit1, kit2, kit3, kit4, lenS, lim, sizeLine_eq, cmpS, bindT, setAll, drf_eP, item1, eN, hl2, hc, lsS]
theorem mt_nothing : Mt es (.tup true (List.replicate es.length .non)) := ⟨_, _, rfl, by simp, fun x hx => .inl (List.eq_of_mem_replicate hx)⟩
abbrev wR8 (pre : Mu) (lt : Int) (es : List Str) (bs : List B3) (js : List J4) (far : Int) (q : PV) (now : Int) (last : Int) (x6 x7 : Option PV) : Rho := [some (.loc pre.length), some (eP lt es bs js), some (.int far), some q, some (.int now), some (.int last), x6, x7]
theorem row_at {ys : List PV} {d : Nat} (h : d < ys.length) (hys : Ms es ys) : ∃ y, itemS (.lst ys) (.int (d : Nat)) = some y ∧ Mt es y := ⟨ys[d], at_gen h, hys _ (List.getElem_mem h)⟩
theorem p_law_walked (k : Nat) {M : Nat} {r m : Mu} (h : Sk pre M r m) (hd : DP lt es bs js rk) (far : Nat) (hf : far ≤ 100) (hM : M < 600000) : ∃ (now : Int) (q : PV) (m' : Mu), Lv T (k + 3) (PySem.Str.ofString "_law_walked") [.loc pre.length, eP lt es bs js, .int (far : Nat)] m = .ok (.tup true [.int now, q]) m' ∧ Sk pre (M + 400) r m' ∧ Mt es q := by
  have hel := hd.el
  have hlen0 := sk_len h
  rw [lv__law_walked _ _ rfl, bl__law_walked]
  suffices hh : Run (Lv T (k + 2)) _ (startR 8 [.loc pre.length, eP lt es bs js, .int (far : Nat)]) m fun x => ∃ (now : Int) (q : PV) (m' : Mu), x = .rt (.tup true [.int now, q]) m' ∧ Sk pre (M + 400) r m' ∧ Mt es q by
    obtain ⟨now, q, m', e, hs, hq⟩ := hh
    refine ⟨now, q, m', ?_, hs, hq⟩
    rw [e]
    exact exit_same (by rw [sk_len hs, hlen0]; omega) (fun _ => by simp)
  have h0 := p_law_nothing (k + 1) (lt := lt) (es := es) (bs := bs) (js := js) m (by omega)
  refine run_nx [some (.loc pre.length), some (eP lt es bs js), some (.int (far : Nat)), some (.tup true (List.replicate es.length .non)), some (.int 0), none, none, none] m (by simp [exs, ex, evT, ev_nm, ev_cst, ev_pr, ev_and, ev_or, ev_ite, ev_call, evs_nil, evs_cons, evs_star, ev_comp, ev_dcomp, evw_seq, evw_zip, evw_rngK, startR, bnd_ok, go_ok, seq_nx, seq_rt, exitS, prR, seesR, d_non, d_bl, d_int, d_str, d_tup, d_lst, d_scr, d_dct, d_ty, prS, bltS, tyS, boolR, oRes, oWd, walkS, fin, kit1, kit2, kit3, kit4, lenS, lim, sizeLine_eq, cmpS, bindT, setAll, h0]) ?_
  obtain ⟨n, m1, e1, hn1, h1⟩ := sk_dip (k + 1) h ((far : Int) + 1) (by omega) (by omega) (by omega)
  refine run_nx (wR8 pre lt es bs js (far : Nat) (.tup true (List.replicate es.length .non)) 0 (n : Nat) none none) m1 (by simp [exs, ex, evT, ev_nm, ev_cst, ev_pr, ev_and, ev_or, ev_ite, ev_call, evs_nil, evs_cons, evs_star, ev_comp, ev_dcomp, evw_seq, evw_zip, evw_rngK, startR, bnd_ok, go_ok, seq_nx, seq_rt, exitS, prR, seesR, d_non, d_bl, d_int, d_str, d_tup, d_lst, d_scr, d_dct, d_ty, prS, bltS, tyS, boolR, oRes, oWd, walkS, fin, kit1, kit2, kit3, kit4, lenS, lim, sizeLine_eq, cmpS, bindT, setAll, binS.eq_1, e1]) ?_
  refine run_for (m1 := m1) (xs := (List.range (n + 1)).map fun k => PV.int (k : Nat)) (ws := []) (fun i ρ m => ∃ (N : Nat) (q : PV) (now : Int) (x6 x7 : Option PV), ρ = wR8 pre lt es bs js (far : Nat) q now (n : Nat) x6 x7 ∧ Sk pre N r m ∧ N ≤ M + 1 + 3 * i ∧ Mt es q) ?_ (fun _ _ _ _ => keeps_nil _ _) ⟨M + 1, _, 0, none, none, rfl, h1, by omega, mt_nothing⟩ ?_ ?_
  · have hrng := rng_nat (n := n + 1) (by omega) m1
    have : ((n + 1 : Nat) : Int) = (n : Int) + 1 := by omega
    rw [this] at hrng
    simp [exs, ex, evT, ev_nm, ev_cst, ev_pr, ev_and, ev_or, ev_ite, ev_call, evs_nil, evs_cons, evs_star, ev_comp, ev_dcomp, evw_seq, evw_zip, evw_rngK, startR, bnd_ok, go_ok, seq_nx, seq_rt, exitS, prR, seesR, d_non, d_bl, d_int, d_str, d_tup, d_lst, d_scr, d_dct, d_ty, prS, bltS, tyS, boolR, oRes, oWd, walkS, fin, kit1, kit2, kit3, kit4, lenS, lim, sizeLine_eq, cmpS, bindT, setAll, binS.eq_1, hrng]
  · rintro j x hx ρ m ⟨N, q, now, x6, x7, rfl, hs, hN, hq⟩
    rw [List.getElem?_map] at hx
    obtain ⟨t, ht, rfl⟩ := Option.map_eq_some_iff.mp hx
    have hj : j < n + 1 := by
      have := (List.getElem?_eq_some_iff.mp ht).1
      simpa using this
    refine ⟨_, rfl, ?_⟩
    obtain ⟨ys, ey, hy1, hy2, hys⟩ := p_law_starts k (lt := lt) (bs := bs) (js := js) m now hd hq
    refine run_nx (wR8 pre lt es bs js (far : Nat) q now (n : Nat) (some (.int (t : Nat))) (some (.lst ys))) m (by simp [exs, ex, evT, ev_nm, ev_cst, ev_pr, ev_and, ev_or, ev_ite, ev_call, evs_nil, evs_cons, evs_star, ev_comp, ev_dcomp, evw_seq, evw_zip, evw_rngK, startR, bnd_ok, go_ok, seq_nx, seq_rt, exitS, prR, seesR, d_non, d_bl, d_int, d_str, d_tup, d_lst, d_scr, d_dct, d_ty, prS, bltS, tyS, boolR, oRes, oWd, walkS, fin, kit1, kit2, kit3, kit4, lenS, lim, sizeLine_eq, cmpS, bindT, setAll, ey]) ?_
    obtain ⟨d1, m1, e1, hd1, h1⟩ := sk_dip (k + 1) hs 2 (by omega) (by omega) (by omega)
    obtain ⟨q1, m2, eq1, h2, hq1⟩ : ∃ (q1 : PV) (m2 : Mu), ev (Lv T (k + 2)) (.ite (.pr (.cmp .Eq) (.cons false (.call (PySem.Str.ofString "_law_dip") (.cons false (.nm 0) (.cons false (.cst (.int 2)) .nil))) (.cons false (.cst (.int 0)) .nil))) (.pr .item (.cons false (.nm 7) (.cons false (.cst (.int 0)) .nil))) (.pr .item (.cons false (.nm 7) (.cons false (.call (PySem.Str.ofString "_law_dip") (.cons false (.nm 0) (.cons false (.pr (.blt .len) (.cons false (.nm 7) .nil)) .nil))) .nil)))) (wR8 pre lt es bs js (far : Nat) q now (n : Nat) (some (.int (t : Nat))) (some (.lst ys))) m = .ok q1 m2 ∧ Sk pre (N + 2) r m2 ∧ Mt es q1 := by
      by_cases h0 : d1 = 0
      · obtain ⟨y, ey, hy⟩ := row_at (d := 0) (by omega) hys
        refine ⟨y, m1, ?_, h1.mono (by omega), hy⟩
        have ey' : itemS (.lst ys) (.int 0) = some y := ey
        simp [exs, ex, evT, ev_nm, ev_cst, ev_pr, ev_and, ev_or, ev_ite, ev_call, evs_nil, evs_cons, evs_star, ev_comp, ev_dcomp, evw_seq, evw_zip, evw_rngK, startR, bnd_ok, go_ok, seq_nx, seq_rt, exitS, prR, seesR, d_non, d_bl, d_int, d_str, d_tup, d_lst, d_scr, d_dct, d_ty, prS, bltS, tyS, boolR, oRes, oWd, walkS, fin, kit1, kit2, kit3, kit4, lenS, lim, sizeLine_eq, cmpS, bindT, setAll, e1, eq_int, h0, ey']
      · obtain ⟨d2, m2, e2, hd2, h2⟩ := sk_dip (k + 1) h1 (ys.length : Nat) (by omega) (by omega) (by omega)
        obtain ⟨y, ey, hy⟩ := row_at (d := d2) (by omega) hys
        refine ⟨y, m2, ?_, h2.mono (by omega), hy⟩
        simp [exs, ex, evT, ev_nm, ev_cst, ev_pr, ev_and, ev_or, ev_ite, ev_call, evs_nil, evs_cons, evs_star, ev_comp, ev_dcomp, evw_seq, evw_zip, evw_rngK, startR, bnd_ok, go_ok, seq_nx, seq_rt, exitS, prR, seesR, d_non, d_bl, d_int, d_str, d_tup, d_lst, d_scr, d_dct, d_ty, prS, bltS, tyS, boolR, oRes, oWd, walkS, fin, kit1, kit2, kit3, kit4, lenS, lim, sizeLine_eq, cmpS, bindT, setAll, e1, eq_int, h0, ey, e2]
    refine run_nx (wR8 pre lt es bs js (far : Nat) q1 now (n : Nat) (some (.int (t : Nat))) (some (.lst ys))) m2 ?_ ?_
    · rw [ex, eq1]
      rfl
    refine run_or (fun ρ' m' => ∃ (N' : Nat) (q : PV) (now : Int) (x6 x7 : Option PV), ρ' = wR8 pre lt es bs js (far : Nat) q now (n : Nat) x6 x7 ∧ Sk pre N' r m' ∧ N' ≤ M + 1 + 3 * (j + 1) ∧ Mt es q) ?_ fun ρ' m' h => run_nil ⟨ρ', m', rfl, h⟩
    by_cases hlt : (t : Int) < (n : Int)
    · refine .inr ⟨m2, by simp [exs, ex, evT, ev_nm, ev_cst, ev_pr, ev_and, ev_or, ev_ite, ev_call, evs_nil, evs_cons, evs_star, ev_comp, ev_dcomp, evw_seq, evw_zip, evw_rngK, startR, bnd_ok, go_ok, seq_nx, seq_rt, exitS, prR, seesR, d_non, d_bl, d_int, d_str, d_tup, d_lst, d_scr, d_dct, d_ty, prS, bltS, tyS, boolR, oRes, oWd, walkS, fin, kit1, kit2, kit3, kit4, lenS, lim, sizeLine_eq, cmpS, bindT, setAll, ltS, hlt], ?_⟩
      refine run_nx (wR8 pre lt es bs js (far : Nat) q1 (now + 1) (n : Nat) (some (.int (t : Nat))) (some (.lst ys))) m2 (by simp [exs, ex, evT, ev_nm, ev_cst, ev_pr, ev_and, ev_or, ev_ite, ev_call, evs_nil, evs_cons, evs_star, ev_comp, ev_dcomp, evw_seq, evw_zip, evw_rngK, startR, bnd_ok, go_ok, seq_nx, seq_rt, exitS, prR, seesR, d_non, d_bl, d_int, d_str, d_tup, d_lst, d_scr, d_dct, d_ty, prS, bltS, tyS, boolR, oRes, oWd, walkS, fin, kit1, kit2, kit3, kit4, lenS, lim, sizeLine_eq, cmpS, bindT, setAll, binS.eq_1]) ?_
      obtain ⟨zs, ez, hz1, hz2, hzs⟩ := p_law_stops k (lt := lt) (bs := bs) (js := js) m2 (now + 1) hd hq1
      refine run_nx (wR8 pre lt es bs js (far : Nat) q1 (now + 1) (n : Nat) (some (.int (t : Nat))) (some (.lst zs))) m2 (by simp [exs, ex, evT, ev_nm, ev_cst, ev_pr, ev_and, ev_or, ev_ite, ev_call, evs_nil, evs_cons, evs_star, ev_comp, ev_dcomp, evw_seq, evw_zip, evw_rngK, startR, bnd_ok, go_ok, seq_nx, seq_rt, exitS, prR, seesR, d_non, d_bl, d_int, d_str, d_tup, d_lst, d_scr, d_dct, d_ty, prS, bltS, tyS, boolR, oRes, oWd, walkS, fin, kit1, kit2, kit3, kit4, lenS, lim, sizeLine_eq, cmpS, bindT, setAll, ez]) ?_
      obtain ⟨d3, m3, e3, hd3, h3⟩ := sk_dip (k + 1) h2 (zs.length : Nat) (by omega) (by omega) (by omega)
      obtain ⟨y, ey, hy⟩ := row_at (d := d3) (by omega) hzs
      refine run_nx (wR8 pre lt es bs js (far : Nat) y (now + 1) (n : Nat) (some (.int (t : Nat))) (some (.lst zs))) m3 (by simp [exs, ex, evT, ev_nm, ev_cst, ev_pr, ev_and, ev_or, ev_ite, ev_call, evs_nil, evs_cons, evs_star, ev_comp, ev_dcomp, evw_seq, evw_zip, evw_rngK, startR, bnd_ok, go_ok, seq_nx, seq_rt, exitS, prR, seesR, d_non, d_bl, d_int, d_str, d_tup, d_lst, d_scr, d_dct, d_ty, prS, bltS, tyS, boolR, oRes, oWd, walkS, fin, kit1, kit2, kit3, kit4, lenS, lim, sizeLine_eq, cmpS, bindT, setAll, e3, ey]) (run_nil ⟨_, _, rfl, _, _, _, _, _, rfl, h3, by omega, hy⟩)
    · refine .inl ⟨m2, by simp [exs, ex, evT, ev_nm, ev_cst, ev_pr, ev_and, ev_or, ev_ite, ev_call, evs_nil, evs_cons, evs_star, ev_comp, ev_dcomp, evw_seq, evw_zip, evw_rngK, startR, bnd_ok, go_ok, seq_nx, seq_rt, exitS, prR, seesR, d_non, d_bl, d_int, d_str, d_tup, d_lst, d_scr, d_dct, d_ty, prS, bltS, tyS, boolR, oRes, oWd, walkS, fin, kit1, kit2, kit3, kit4, lenS, lim, sizeLine_eq, cmpS, bindT, setAll, ltS, hlt], run_nil ⟨_, _, rfl, _, _, _, _, _, rfl, h2, by omega, hq1⟩⟩
  · rintro ρ' m' ⟨N, q, now, x6, x7, rfl, hs, hN, hq⟩
    rw [List.length_map, List.length_range] at hN
    exact run_ret (p := .tup true [.int now, q]) (m' := m') (by simp [exs, ex, evT, ev_nm, ev_cst, ev_pr, ev_and, ev_or, ev_ite, ev_call, evs_nil, evs_cons, evs_star, ev_comp, ev_dcomp, evw_seq, evw_zip, evw_rngK, startR, bnd_ok, go_ok, seq_nx, seq_rt, exitS, prR, seesR, d_non, d_bl, d_int, d_str, d_tup, d_lst, d_scr, d_dct, d_ty, prS, bltS, tyS, boolR, oRes, oWd, walkS, fin, kit1, kit2, kit3, kit4, lenS, lim, sizeLine_eq, cmpS, bindT, setAll]) ⟨now, q, m', rfl, hs.mono (by omega), hq⟩
end Sn.Lk08
namespace Sn.Lk08
open PySem PySem.Spec PyProof.Rows L2
variable {lt : Int} {es : List Str} {bs : List B3} {js : List J4} {rk : Str → Nat} {pre : Mu}
/-! ### things of any kind -/
def knS : PV → Bool
  | .non => true
  | .bl _ => true
  | .int _ => true
  | .str _ => true
  | .tup _ _ => true
  | .lst _ => true
  | .dct _ _ => true
  | _ => false
def wh0 : PV → Bool
  | .int i => decide (0 ≤ i)
  | _ => false
theorem kn_drf {p : PV} (h : knS p = true) (m : Mu) : drf m p = p := by
  cases p <;> first | rfl | (simp [knS] at h)
theorem kt_NoneType_int : kitB "NoneType" "int" = some false := by decide +kernel
theorem kt_NoneType_bool : kitB "NoneType" "bool" = some false := by decide +kernel
theorem kt_NoneType_tuple : kitB "NoneType" "tuple" = some false := by decide +kernel
theorem kt_NoneType_str : kitB "NoneType" "str" = some false := by decide +kernel
theorem kt_NoneType_list : kitB "NoneType" "list" = some false := by decide +kernel
theorem kt_bool_int : kitB "bool" "int" = some true := by decide +kernel
theorem kt_bool_bool : kitB "bool" "bool" = some true := by decide +kernel
theorem kt_bool_tuple : kitB "bool" "tuple" = some false := by decide +kernel
theorem kt_bool_str : kitB "bool" "str" = some false := by decide +kernel
theorem kt_bool_list : kitB "bool" "list" = some false := by decide +kernel
theorem kt_int_int : kitB "int" "int" = some true := by decide +kernel
theorem kt_int_bool : kitB "int" "bool" = some false := by decide +kernel
theorem kt_int_tuple : kitB "int" "tuple" = some false := by decide +kernel
theorem kt_int_str : kitB "int" "str" = some false := by decide +kernel
theorem kt_int_list : kitB "int" "list" = some false := by decide +kernel
theorem kt_str_int : kitB "str" "int" = some false := by decide +kernel
theorem kt_str_bool : kitB "str" "bool" = some false := by decide +kernel
theorem kt_str_tuple : kitB "str" "tuple" = some false := by decide +kernel
theorem kt_str_str : kitB "str" "str" = some true := by decide +kernel
theorem kt_str_list : kitB "str" "list" = some false := by decide +kernel
theorem kt_tuple_int : kitB "tuple" "int" = some false := by decide +kernel
theorem kt_tuple_bool : kitB "tuple" "bool" = some false := by decide +kernel
theorem kt_tuple_tuple : kitB "tuple" "tuple" = some true := by decide +kernel
theorem kt_tuple_str : kitB "tuple" "str" = some false := by decide +kernel
theorem kt_tuple_list : kitB "tuple" "list" = some false := by decide +kernel
theorem kt_list_int : kitB "list" "int" = some false := by decide +kernel
theorem kt_list_bool : kitB "list" "bool" = some false := by decide +kernel
theorem kt_list_tuple : kitB "list" "tuple" = some false := by decide +kernel
theorem kt_list_str : kitB "list" "str" = some false := by decide +kernel
theorem kt_list_list : kitB "list" "list" = some true := by decide +kernel
theorem kt_dict_int : kitB "dict" "int" = some false := by decide +kernel
theorem kt_dict_bool : kitB "dict" "bool" = some false := by decide +kernel
theorem kt_dict_tuple : kitB "dict" "tuple" = some false := by decide +kernel
theorem kt_dict_str : kitB "dict" "str" = some false := by decide +kernel
theorem kt_dict_list : kitB "dict" "list" = some false := by decide +kernel
theorem lt_not (i j : Int) : decide (i < j) = !decide (j ≤ i) := by
  by_cases h : i < j
  · have : ¬ j ≤ i := by omega
    simp [h, this]
  · have : j ≤ i := by omega
    simp [h, this]
def isI : PV → Bool
  | .int _ => true
  | _ => false
theorem p_whole0 (k : Nat) (p : PV) (m : Mu) (h : knS p = true) : Lv T (k + 1) (PySem.Str.ofString "_law_is_whole") [p, .int 0] m = .ok (.bl (wh0 p)) m := by
  rw [lv__law_is_whole _ _ rfl, bl__law_is_whole]
  cases p <;> first | (simp [knS] at h; done) | (simp [exs, ex, evT, ev_nm, ev_cst, ev_pr, ev_and, ev_or, ev_ite, ev_call, evs_nil, evs_cons, evs_star, ev_comp, ev_dcomp, evw_seq, evw_zip, evw_rngK, startR, bnd_ok, go_ok, seq_nx, seq_rt, exitS, prR, seesR, d_non, d_bl, d_int, d_str, d_tup, d_lst, d_scr, d_dct, d_ty, prS, bltS, tyS, boolR, oRes, oWd, walkS, fin, kit1, kit2, kit3, kit4, lenS, lim, sizeLine_eq, cmpS, bindT, setAll, wh0, ltS, lt_not, kt_NoneType_int, kt_NoneType_bool, kt_NoneType_tuple, kt_bool_int, kt_bool_bool, kt_bool_tuple, kt_int_int, kt_int_bool, kt_int_tuple, kt_str_int, kt_str_bool, kt_str_tuple, kt_tuple_int, kt_tuple_bool, kt_tuple_tuple, kt_list_int, kt_list_bool, kt_list_tuple, kt_dict_int, kt_dict_bool, kt_dict_tuple]; done)
theorem p_int0 (k : Nat) (p : PV) (m : Mu) (h : knS p = true) : Lv T (k + 1) (PySem.Str.ofString "is_integer") [p] m = .ok (.bl (isI p)) m := by
  rw [lv_is_integer _ _ rfl, bl_is_integer]
  cases p <;> first | (simp [knS] at h; done) | (simp [exs, ex, evT, ev_nm, ev_cst, ev_pr, ev_and, ev_or, ev_ite, ev_call, evs_nil, evs_cons, evs_star, ev_comp, ev_dcomp, evw_seq, evw_zip, evw_rngK, startR, bnd_ok, go_ok, seq_nx, seq_rt, exitS, prR, seesR, d_non, d_bl, d_int, d_str, d_tup, d_lst, d_scr, d_dct, d_ty, prS, bltS, tyS, boolR, oRes, oWd, walkS, fin, kit1, kit2, kit3, kit4, lenS, lim, sizeLine_eq, cmpS, bindT, setAll, isI, kt_NoneType_int, kt_NoneType_bool, kt_NoneType_tuple, kt_bool_int, kt_bool_bool, kt_bool_tuple, kt_int_int, kt_int_bool, kt_int_tuple, kt_str_int, kt_str_bool, kt_str_tuple, kt_tuple_int, kt_tuple_bool, kt_tuple_tuple, kt_list_int, kt_list_bool, kt_list_tuple, kt_dict_int, kt_dict_bool, kt_dict_tuple]; done)
theorem p_least0 (k : Nat) (p : PV) (m : Mu) (h : knS p = true) : Lv T (k + 2) (PySem.Str.ofString "is_at_least") [p, .int 0] m = .ok (.bl (wh0 p)) m := by
  rw [lv_is_at_least _ _ rfl, bl_is_at_least]
  have h1 := p_int0 k p m h
  cases p <;> first | (simp [knS] at h; done) | (simp [exs, ex, evT, ev_nm, ev_cst, ev_pr, ev_and, ev_or, ev_ite, ev_call, evs_nil, evs_cons, evs_star, ev_comp, ev_dcomp, evw_seq, evw_zip, evw_rngK, startR, bnd_ok, go_ok, seq_nx, seq_rt, exitS, prR, seesR, d_non, d_bl, d_int, d_str, d_tup, d_lst, d_scr, d_dct, d_ty, prS, bltS, tyS, boolR, oRes, oWd, walkS, fin, kit1, kit2, kit3, kit4, lenS, lim, sizeLine_eq, cmpS, bindT, setAll, wh0, ltS, h1, isI, lt_not]; done)
end Sn.Lk08
namespace Sn.Lk08
open PySem PySem.Spec PyProof.Rows L2
variable {lt : Int} {es : List Str} {bs : List B3} {js : List J4} {rk : Str → Nat} {pre : Mu}
/-! ### a walk that may end the def with one value -/
theorem forL_any {step : Rho → Mu → SR} {tg : Tg} {ok : Mu → Prop} {m : Mu} (J : Rho → Prop) (c : PV → Bool) (v : PV) (hk : ok m) : ∀ (xs : List PV) (ρ : Rho), J ρ → (∀ x ∈ xs, ∀ ρ, J ρ → ∃ ρ1, bindT tg x ρ = some ρ1 ∧ ((c x = true ∧ step ρ1 m = .rt v m) ∨ (c x = false ∧ ∃ ρ2, step ρ1 m = .nx ρ2 m ∧ J ρ2))) →
    (xs.any c = true ∧ forL step tg ok xs ρ m = .rt v m) ∨ (xs.any c = false ∧ ∃ ρ', forL step tg ok xs ρ m = .nx ρ' m ∧ J ρ')
  | [], ρ, h, _ => .inr ⟨rfl, ρ, by simp only [forL, if_pos hk], h⟩
  | x :: xs, ρ, h, hs => by
    obtain ⟨ρ1, e1, h1⟩ := hs x (by simp) ρ h
    rcases h1 with ⟨hc, e2⟩ | ⟨hc, ρ2, e2, h2⟩
    · exact .inl ⟨by simp [hc], by simp only [forL, if_pos hk, e1, e2]⟩
    · rcases forL_any J c v hk xs ρ2 h2 fun y hy => hs y (List.mem_cons_of_mem _ hy) with ⟨h3, e3⟩ | ⟨h3, ρ', e3, h4⟩
      · exact .inl ⟨by simp [h3], by simp only [forL, if_pos hk, e1, e2, e3]⟩
      · exact .inr ⟨by simp [hc, h3], ρ', by simp only [forL, if_pos hk, e1, e2, e3], h4⟩
theorem run_forX {Φ : FEnv} {ρ : Rho} {m m1 : Mu} {r b : Stms} {Q : SR → Prop} {tg : Tg} {it : Wk} {xs : List PV} {ws : List Nat} (J : Rho → Prop) (c : PV → Bool) (v : PV) (hw : evw Φ it ρ m = .ok (xs, ws) m1) (hk : keeps ws m1 m1) (h0 : J ρ)
    (hs : ∀ x ∈ xs, ∀ ρ, J ρ → ∃ ρ1, bindT tg x ρ = some ρ1 ∧ ((c x = true ∧ Run Φ b ρ1 m1 fun y => y = .rt v m1) ∨ (c x = false ∧ Run Φ b ρ1 m1 fun y => ∃ ρ2, y = .nx ρ2 m1 ∧ J ρ2)))
    (ht : xs.any c = true → Q (.rt v m1)) (hf : xs.any c = false → ∀ ρ', J ρ' → Run Φ r ρ' m1 Q) : Run Φ (.cons (.for_ tg it b) r) ρ m Q := by
  rcases forL_any (step := fun ρ m => exs Φ b ρ m) (tg := tg) (ok := keeps ws m1) (m := m1) J c v hk xs ρ h0 hs with ⟨h1, e⟩ | ⟨h1, ρ', e, h2⟩
  · unfold Run
    rw [exs, ex, hw]
    simp only [Res.go]
    rw [e]
    exact ht h1
  · unfold Run
    rw [st_for hw e rfl]
    exact hf h1 ρ' h2
theorem eq_nilL (ys : List PV) : eqS (.lst ys) (.lst []) = some ys.isEmpty := by
  unfold eqS
  cases ys with
  | nil => simp [toD, toDs, dep, deps, PyData.eqv, PyData.eqvAll]
  | cons y r =>
    cases e : toD (.lst (y :: r)) with
    | none => rfl
    | some d =>
      simp only [toD, Option.map_eq_some_iff] at e
      obtain ⟨ds, e1, rfl⟩ := e
      have hl : ds ≠ [] := by
        rintro rfl
        simp only [toDs] at e1
        split at e1 <;> simp at e1
      cases ds with
      | nil => exact absurd rfl hl
      | cons d ds => simp [toD, toDs, dep, deps, PyData.eqv, PyData.eqvAll]
/-! ### moments and times judged -/
def badM (now : Int) : PV → Bool
  | .non => false
  | .int i => !decide (0 ≤ i) || decide (now < i)
  | _ => true
def badJ (now lo hi : Int) : PV → PV → Bool
  | .int f, .int l => decide (l - f < lo) || decide (hi < l - f)
  | .non, .int _ => true
  | .int f, .non => decide (hi ≤ now - f)
  | _, _ => false
def pastB (es : List Str) (js : List J4) : PV → Bool
  | .tup _ [.int now, .tup _ xs] => decide (0 ≤ now) && decide (xs.length = es.length) && !xs.any (badM now) && !js.any fun j => badJ now j.2.2.1 j.2.2.2 (wv es xs j.1) (wv es xs j.2.1)
  | _ => false
structure Gd (p : PV) : Prop where
  kn : knS p = true
  two : ∀ g a b, p = .tup g [a, b] → knS a = true ∧ knS b = true ∧ ∀ g' xs, b = .tup g' xs → xs.length ≤ 1000 ∧ ∀ x ∈ xs, knS x = true
theorem good_mv {now : Int} {xs : List PV} (hk : ∀ x ∈ xs, knS x = true) (h : xs.any (badM now) = false) : ∀ x ∈ xs, Mv x := fun x hx => by
  have h1 := List.any_eq_false.mp h x hx
  cases x with
  | non => exact .inl rfl
  | int i => exact .inr ⟨i, rfl⟩
  | _ => simp [badM] at h1
theorem p_are_moments (k : Nat) (now : Int) {g : Bool} {xs : List PV} (m : Mu) (hk : ∀ x ∈ xs, knS x = true) (hl : xs.length ≤ 1000) : Lv T (k + 3) (PySem.Str.ofString "are_moments") [eP lt es bs js, .int now, .tup g xs] m = .ok (.bl (decide (xs.length = es.length) && !xs.any (badM now))) m := by
  rw [lv_are_moments _ _ rfl, bl_are_moments]
  have hsz : xs.length ≤ 16777216 := by omega
  have hc : collect (stepC (Lv T (k + 2)) (.nm 3) [3] (.cst (.bl true)) (.or_ (.pr (.cmp .Is) (.cons false (.nm 3) (.cons false (.cst .non) .nil))) (.and_ (.call (PySem.Str.ofString "is_at_least") (.cons false (.nm 3) (.cons false (.cst (.int 0)) .nil))) (.pr (.cmp .LtE) (.cons false (.nm 3) (.cons false (.nm 1) .nil))))) [some (eP lt es bs js), some (.int now), some (.tup g xs), none]) (keeps [] m) xs m = .ok (xs.map fun x => .bl (!badM now x)) m := by
    rw [collect_map (g := fun x => .bl (!badM now x)) (keeps_nil m m) fun y hy => ?_]
    have h1 := p_least0 k y m (hk y hy)
    have h2 := hk y hy
    cases y <;> first | (simp [knS] at h2; done) | (simp [stepC, stepD, bindT, wipeR, setAll, noX, ev, evs, bnd_ok, boolR, prR, seesR, d_non, d_bl, d_int, d_str, d_tup, d_lst, d_scr, d_dct, d_ty, prS, bltS, cmpS, oRes, isS, h1, wh0, badM]; done) | skip
    rename_i i
    by_cases h0 : 0 ≤ i
    · simp [stepC, stepD, bindT, wipeR, setAll, noX, ev, evs, bnd_ok, boolR, prR, seesR, d_non, d_bl, d_int, d_str, d_tup, d_lst, d_scr, d_dct, d_ty, prS, bltS, cmpS, oRes, isS, h1, wh0, badM, ltS, h0]
    · simp [stepC, stepD, bindT, wipeR, setAll, noX, ev, evs, bnd_ok, boolR, prR, seesR, d_non, d_bl, d_int, d_str, d_tup, d_lst, d_scr, d_dct, d_ty, prS, bltS, cmpS, oRes, isS, h1, wh0, badM, h0]
  have hall : ((allO blS (xs.map fun x => PV.bl (!badM now x))).map fun bs => PV.bl (bs.all id)) = some (.bl (!xs.any (badM now))) := by
    have : allO blS (xs.map fun x => PV.bl (!badM now x)) = some (xs.map fun x => !badM now x) := by
      clear hk hl hsz hc
      induction xs with
      | nil => rfl
      | cons x r ih => simp only [List.map_cons, allO, ih, blS]
    rw [this, Option.map_some]
    congr 2
    rw [List.all_map]
    clear hk hl hsz hc this
    induction xs with
    | nil => rfl
    | cons x r ih =>
      have ih' : (r.all fun x => !badM now x) = !r.any (badM now) := ih
      simp [ih']
  by_cases hn : xs.length = es.length
  · have hsz2 : es.length ≤ 16777216 := by omega
    simp [exs, ex, evT, ev_nm, ev_cst, ev_pr, ev_and, ev_or, ev_ite, ev_call, evs_nil, evs_cons, evs_star, ev_comp, ev_dcomp, evw_seq, evw_zip, evw_rngK, startR, bnd_ok, go_ok, seq_nx, seq_rt, exitS, prR, seesR, d_non, d_bl, d_int, d_str, d_tup, d_lst, d_scr, d_dct, d_ty, prS, bltS, tyS, boolR, oRes, oWd, walkS, fin, kit1, kit2, kit3, kit4, lenS, lim, sizeLine_eq, cmpS, bindT, setAll, kt_tuple_tuple, drf_eP, item1, eN, eq_int, hn, hc, hsz2, lsS, hall]
  · have : ¬ (xs.length : Int) = es.length := by omega
    simp [exs, ex, evT, ev_nm, ev_cst, ev_pr, ev_and, ev_or, ev_ite, ev_call, evs_nil, evs_cons, evs_star, ev_comp, ev_dcomp, evw_seq, evw_zip, evw_rngK, startR, bnd_ok, go_ok, seq_nx, seq_rt, exitS, prR, seesR, d_non, d_bl, d_int, d_str, d_tup, d_lst, d_scr, d_dct, d_ty, prS, bltS, tyS, boolR, oRes, oWd, walkS, fin, kit1, kit2, kit3, kit4, lenS, lim, sizeLine_eq, cmpS, bindT, setAll, kt_tuple_tuple, drf_eP, item1, eN, eq_int, this, hn]
end Sn.Lk08
namespace Sn.Lk08
open PySem PySem.Spec PyProof.Rows L2
variable {lt : Int} {es : List Str} {bs : List B3} {js : List J4} {rk : Str → Nat} {pre : Mu}
section
variable {Φ : FEnv} {ρ : Rho} {m m1 m2 : Mu} {a b r : Stms} {c : Ex} {v : PV} {Q : SR → Prop}
theorem run_yes (hc : evT Φ c ρ m = .ok true m1) (ha : exs Φ a ρ m1 = .rt v m2) (q : Q (.rt v m2)) : Run Φ (.cons (.ite c a b) r) ρ m Q := by
  unfold Run
  have : ex Φ (.ite c a b) ρ m = .rt v m2 := by rw [if_yes hc]; exact ha
  rw [st_rt this]
  exact q
theorem run_skip (hc : evT Φ c ρ m = .ok false m1) (k : Run Φ r ρ m1 Q) : Run Φ (.cons (.ite c a .nil) r) ρ m Q :=
  run_nx ρ m1 (by rw [if_no hc]; exact exs_nil) k
theorem exs_retc : exs Φ (.cons (.ret (.cst v)) .nil) ρ m = .rt v m := by
  refine st_rt ?_
  rw [ex, ev_cst]
  rfl
end
theorem pastB_wh {g : Bool} {a b : PV} (h : wh0 a = false) : pastB es js (.tup g [a, b]) = false := by
  cases a <;> first | rfl | skip
  rename_i i
  simp only [wh0, decide_eq_false_iff_not] at h
  cases b <;> simp [pastB, h]
theorem pastB_nt {g : Bool} {a b : PV} (h : ∀ g xs, b ≠ .tup g xs) : pastB es js (.tup g [a, b]) = false := by
  cases b <;> first | (cases a <;> rfl; done) | skip
  exact absurd rfl (h _ _)
theorem wh0_int {a : PV} (h : wh0 a = true) : ∃ i : Int, a = .int i ∧ 0 ≤ i := by
  cases a <;> first | (simp [wh0] at h; done) | skip
  exact ⟨_, rfl, by simpa [wh0] using h⟩
theorem ne_two {n : Nat} (h : n ≠ 2) : decide ((n : Int) = 2) = false := by
  simp; omega
def cJ (es : List Str) (now : Int) (xs : List PV) : PV → Bool
  | .tup _ [.str a, .str b, .int lo, .int hi] => badJ now lo hi (wv es xs a) (wv es xs b)
  | _ => false
theorem any_cJ (now : Int) (xs : List PV) : (js.map eJ).any (cJ es now xs) = js.any fun j => badJ now j.2.2.1 j.2.2.2 (wv es xs j.1) (wv es xs j.2.1) := by
  rw [List.any_map]
  rfl
theorem le_not (a b : Int) : cmpS .LtE (.int a) (.int b) = some (decide (a ≤ b)) := ge_or b a
abbrev hR (lt : Int) (es : List Str) (bs : List B3) (js : List J4) (th nw q : PV) (x4 x5 x6 x7 x8 x9 : Option PV) : Rho := [some (eP lt es bs js), some th, some nw, some q, x4, x5, x6, x7, x8, x9]
def hBody : Stms := .cons (.par [8, 9] (.cons false (.call (PySem.Str.ofString "moment_of") (.cons false (.nm 0) (.cons false (.nm 3) (.cons false (.nm 4) .nil)))) (.cons false (.call (PySem.Str.ofString "moment_of") (.cons false (.nm 0) (.cons false (.nm 3) (.cons false (.nm 5) .nil)))) .nil))) (.cons (.ite (.and_ (.pr (.cmp .IsNot) (.cons false (.nm 9) (.cons false (.cst .non) .nil))) (.or_ (.pr (.cmp .Is) (.cons false (.nm 8) (.cons false (.cst .non) .nil))) (.pr .not_ (.cons false (.chn (.nm 6) .LtE (.pr (.bin .Sub) (.cons false (.nm 9) (.cons false (.nm 8) .nil))) .LtE (.nm 7)) .nil)))) (.cons (.ret (.cst (.bl false))) .nil) .nil) (.cons (.ite (.and_ (.pr (.cmp .Is) (.cons false (.nm 9) (.cons false (.cst .non) .nil))) (.and_ (.pr (.cmp .IsNot) (.cons false (.nm 8) (.cons false (.cst .non) .nil))) (.pr (.cmp .GtE) (.cons false (.pr (.bin .Sub) (.cons false (.nm 2) (.cons false (.nm 8) .nil))) (.cons false (.nm 7) .nil))))) (.cons (.ret (.cst (.bl false))) .nil) .nil) .nil))
theorem hist_step (k : Nat) {j : J4} {g2 : Bool} {xs : List PV} {th : PV} {now : Int} (m : Mu) (first last : PV) (x8 x9 : Option PV)
    (hw1 : Lv T k (PySem.Str.ofString "moment_of") [eP lt es bs js, .tup g2 xs, .str j.1] m = .ok first m) (hw2 : Lv T k (PySem.Str.ofString "moment_of") [eP lt es bs js, .tup g2 xs, .str j.2.1] m = .ok last m) (hv1 : Mv first) (hv2 : Mv last) :
    (badJ now j.2.2.1 j.2.2.2 first last = true ∧ Run (Lv T k) hBody (hR lt es bs js th (.int now) (.tup g2 xs) (some (.str j.1)) (some (.str j.2.1)) (some (.int j.2.2.1)) (some (.int j.2.2.2)) x8 x9) m fun y => y = .rt (.bl false) m) ∨
    (badJ now j.2.2.1 j.2.2.2 first last = false ∧ Run (Lv T k) hBody (hR lt es bs js th (.int now) (.tup g2 xs) (some (.str j.1)) (some (.str j.2.1)) (some (.int j.2.2.1)) (some (.int j.2.2.2)) x8 x9) m fun y => ∃ ρ2, y = .nx ρ2 m ∧ ∃ x4 x5 x6 x7 x8 x9, ρ2 = hR lt es bs js th (.int now) (.tup g2 xs) x4 x5 x6 x7 x8 x9) := by
  unfold hBody
  have hpar : ∀ {Q : SR → Prop} {r : Stms}, Run (Lv T k) r (hR lt es bs js th (.int now) (.tup g2 xs) (some (.str j.1)) (some (.str j.2.1)) (some (.int j.2.2.1)) (some (.int j.2.2.2)) (some first) (some last)) m Q → Run (Lv T k) (.cons (.par [8, 9] (.cons false (.call (PySem.Str.ofString "moment_of") (.cons false (.nm 0) (.cons false (.nm 3) (.cons false (.nm 4) .nil)))) (.cons false (.call (PySem.Str.ofString "moment_of") (.cons false (.nm 0) (.cons false (.nm 3) (.cons false (.nm 5) .nil)))) .nil))) r) (hR lt es bs js th (.int now) (.tup g2 xs) (some (.str j.1)) (some (.str j.2.1)) (some (.int j.2.2.1)) (some (.int j.2.2.2)) x8 x9) m Q := fun h => run_nx _ m (by simp [exs, ex, evT, ev_nm, ev_cst, ev_pr, ev_and, ev_or, ev_ite, ev_call, evs_nil, evs_cons, evs_star, ev_comp, ev_dcomp, evw_seq, evw_zip, evw_rngK, startR, bnd_ok, go_ok, seq_nx, seq_rt, exitS, prR, seesR, d_non, d_bl, d_int, d_str, d_tup, d_lst, d_scr, d_dct, d_ty, prS, bltS, tyS, boolR, oRes, oWd, walkS, fin, kit1, kit2, kit3, kit4, lenS, lim, sizeLine_eq, cmpS, bindT, setAll, hw1, hw2]) h
  rcases hv2 with rfl | ⟨l, rfl⟩
  · rcases hv1 with rfl | ⟨f, rfl⟩
    · refine .inr ⟨rfl, hpar (run_skip (m1 := m) (by simp [exs, ex, evT, ev_nm, ev_cst, ev_pr, ev_and, ev_or, ev_ite, ev_call, evs_nil, evs_cons, evs_star, ev_comp, ev_dcomp, evw_seq, evw_zip, evw_rngK, startR, bnd_ok, go_ok, seq_nx, seq_rt, exitS, prR, seesR, d_non, d_bl, d_int, d_str, d_tup, d_lst, d_scr, d_dct, d_ty, prS, bltS, tyS, boolR, oRes, oWd, walkS, fin, kit1, kit2, kit3, kit4, lenS, lim, sizeLine_eq, cmpS, bindT, setAll, isS]) (run_skip (m1 := m) (by simp [exs, ex, evT, ev_nm, ev_cst, ev_pr, ev_and, ev_or, ev_ite, ev_call, evs_nil, evs_cons, evs_star, ev_comp, ev_dcomp, evw_seq, evw_zip, evw_rngK, startR, bnd_ok, go_ok, seq_nx, seq_rt, exitS, prR, seesR, d_non, d_bl, d_int, d_str, d_tup, d_lst, d_scr, d_dct, d_ty, prS, bltS, tyS, boolR, oRes, oWd, walkS, fin, kit1, kit2, kit3, kit4, lenS, lim, sizeLine_eq, cmpS, bindT, setAll, isS]) (run_nil ⟨_, rfl, _, _, _, _, _, _, rfl⟩)))⟩
    · by_cases h : j.2.2.2 ≤ now - f
      · refine .inl ⟨by simp [badJ, h], hpar (run_skip (m1 := m) (by simp [exs, ex, evT, ev_nm, ev_cst, ev_pr, ev_and, ev_or, ev_ite, ev_call, evs_nil, evs_cons, evs_star, ev_comp, ev_dcomp, evw_seq, evw_zip, evw_rngK, startR, bnd_ok, go_ok, seq_nx, seq_rt, exitS, prR, seesR, d_non, d_bl, d_int, d_str, d_tup, d_lst, d_scr, d_dct, d_ty, prS, bltS, tyS, boolR, oRes, oWd, walkS, fin, kit1, kit2, kit3, kit4, lenS, lim, sizeLine_eq, cmpS, bindT, setAll, isS]) (run_yes (m1 := m) ?_ exs_retc rfl))⟩
        have : ¬ now - f < j.2.2.2 := by omega
        simp [exs, ex, evT, ev_nm, ev_cst, ev_pr, ev_and, ev_or, ev_ite, ev_call, evs_nil, evs_cons, evs_star, ev_comp, ev_dcomp, evw_seq, evw_zip, evw_rngK, startR, bnd_ok, go_ok, seq_nx, seq_rt, exitS, prR, seesR, d_non, d_bl, d_int, d_str, d_tup, d_lst, d_scr, d_dct, d_ty, prS, bltS, tyS, boolR, oRes, oWd, walkS, fin, kit1, kit2, kit3, kit4, lenS, lim, sizeLine_eq, cmpS, bindT, setAll, isS, binS, ltS, this]
      · refine .inr ⟨by simp [badJ, h], hpar (run_skip (m1 := m) (by simp [exs, ex, evT, ev_nm, ev_cst, ev_pr, ev_and, ev_or, ev_ite, ev_call, evs_nil, evs_cons, evs_star, ev_comp, ev_dcomp, evw_seq, evw_zip, evw_rngK, startR, bnd_ok, go_ok, seq_nx, seq_rt, exitS, prR, seesR, d_non, d_bl, d_int, d_str, d_tup, d_lst, d_scr, d_dct, d_ty, prS, bltS, tyS, boolR, oRes, oWd, walkS, fin, kit1, kit2, kit3, kit4, lenS, lim, sizeLine_eq, cmpS, bindT, setAll, isS]) (run_skip (m1 := m) ?_ (run_nil ⟨_, rfl, _, _, _, _, _, _, rfl⟩)))⟩
        have : now - f < j.2.2.2 := by omega
        simp [exs, ex, evT, ev_nm, ev_cst, ev_pr, ev_and, ev_or, ev_ite, ev_call, evs_nil, evs_cons, evs_star, ev_comp, ev_dcomp, evw_seq, evw_zip, evw_rngK, startR, bnd_ok, go_ok, seq_nx, seq_rt, exitS, prR, seesR, d_non, d_bl, d_int, d_str, d_tup, d_lst, d_scr, d_dct, d_ty, prS, bltS, tyS, boolR, oRes, oWd, walkS, fin, kit1, kit2, kit3, kit4, lenS, lim, sizeLine_eq, cmpS, bindT, setAll, isS, binS, ltS, this]
  · rcases hv1 with rfl | ⟨f, rfl⟩
    · exact .inl ⟨rfl, hpar (run_yes (m1 := m) (by simp [exs, ex, evT, ev_nm, ev_cst, ev_pr, ev_and, ev_or, ev_ite, ev_call, evs_nil, evs_cons, evs_star, ev_comp, ev_dcomp, evw_seq, evw_zip, evw_rngK, startR, bnd_ok, go_ok, seq_nx, seq_rt, exitS, prR, seesR, d_non, d_bl, d_int, d_str, d_tup, d_lst, d_scr, d_dct, d_ty, prS, bltS, tyS, boolR, oRes, oWd, walkS, fin, kit1, kit2, kit3, kit4, lenS, lim, sizeLine_eq, cmpS, bindT, setAll, isS]) exs_retc rfl)⟩
    · by_cases h1 : l - f < j.2.2.1
      · refine .inl ⟨by simp [badJ, h1], hpar (run_yes (m1 := m) ?_ exs_retc rfl)⟩
        have : ¬ j.2.2.1 ≤ l - f := by omega
        simp [exs, ex, evT, ev_nm, ev_cst, ev_pr, ev_and, ev_or, ev_ite, ev_call, evs_nil, evs_cons, evs_star, ev_comp, ev_dcomp, evw_seq, evw_zip, evw_rngK, startR, bnd_ok, go_ok, seq_nx, seq_rt, exitS, prR, seesR, d_non, d_bl, d_int, d_str, d_tup, d_lst, d_scr, d_dct, d_ty, prS, bltS, tyS, boolR, oRes, oWd, walkS, fin, kit1, kit2, kit3, kit4, lenS, lim, sizeLine_eq, cmpS, bindT, setAll, isS, binS, ltS, ev_chn, h1]
      · by_cases h2 : j.2.2.2 < l - f
        · refine .inl ⟨by simp [badJ, h2], hpar (run_yes (m1 := m) ?_ exs_retc rfl)⟩
          simp [exs, ex, evT, ev_nm, ev_cst, ev_pr, ev_and, ev_or, ev_ite, ev_call, evs_nil, evs_cons, evs_star, ev_comp, ev_dcomp, evw_seq, evw_zip, evw_rngK, startR, bnd_ok, go_ok, seq_nx, seq_rt, exitS, prR, seesR, d_non, d_bl, d_int, d_str, d_tup, d_lst, d_scr, d_dct, d_ty, prS, bltS, tyS, boolR, oRes, oWd, walkS, fin, kit1, kit2, kit3, kit4, lenS, lim, sizeLine_eq, cmpS, bindT, setAll, isS, binS, ltS, ev_chn, h1, h2]
        · refine .inr ⟨by simp [badJ, h1, h2], hpar (run_skip (m1 := m) ?_ (run_skip (m1 := m) (by simp [exs, ex, evT, ev_nm, ev_cst, ev_pr, ev_and, ev_or, ev_ite, ev_call, evs_nil, evs_cons, evs_star, ev_comp, ev_dcomp, evw_seq, evw_zip, evw_rngK, startR, bnd_ok, go_ok, seq_nx, seq_rt, exitS, prR, seesR, d_non, d_bl, d_int, d_str, d_tup, d_lst, d_scr, d_dct, d_ty, prS, bltS, tyS, boolR, oRes, oWd, walkS, fin, kit1, kit2, kit3, kit4, lenS, lim, sizeLine_eq, cmpS, bindT, setAll, isS]) (run_nil ⟨_, rfl, _, _, _, _, _, _, rfl⟩)))⟩
          simp [exs, ex, evT, ev_nm, ev_cst, ev_pr, ev_and, ev_or, ev_ite, ev_call, evs_nil, evs_cons, evs_star, ev_comp, ev_dcomp, evw_seq, evw_zip, evw_rngK, startR, bnd_ok, go_ok, seq_nx, seq_rt, exitS, prR, seesR, d_non, d_bl, d_int, d_str, d_tup, d_lst, d_scr, d_dct, d_ty, prS, bltS, tyS, boolR, oRes, oWd, walkS, fin, kit1, kit2, kit3, kit4, lenS, lim, sizeLine_eq, cmpS, bindT, setAll, isS, binS, ltS, ev_chn, h1, h2]
theorem p_is_history_of (k : Nat) (th : PV) (m : Mu) (hd : DP lt es bs js rk) (hg : Gd th) : Lv T (k + 4) (PySem.Str.ofString "is_history_of") [eP lt es bs js, th] m = .ok (.bl (pastB es js th)) m := by
  have hel := hd.el
  have hjl := hd.jl
  rw [lv_is_history_of _ _ rfl, bl_is_history_of]
  suffices hh : Run (Lv T (k + 3)) _ (startR 10 [eP lt es bs js, th]) m fun x => x = .rt (.bl (pastB es js th)) m by
    rw [hh]
    exact exit_same (Nat.le_refl _) (fun _ => by simp)
  have hkn := hg.kn
  have hdr := kn_drf hkn m
  by_cases ht : ∃ g xs, th = .tup g xs
  case neg =>
    refine run_yes (m1 := m) ?_ exs_retc ?_
    · cases th <;> first | (simp [knS] at hkn; done) | (simp [exs, ex, evT, ev_nm, ev_cst, ev_pr, ev_and, ev_or, ev_ite, ev_call, evs_nil, evs_cons, evs_star, ev_comp, ev_dcomp, evw_seq, evw_zip, evw_rngK, startR, bnd_ok, go_ok, seq_nx, seq_rt, exitS, prR, seesR, d_non, d_bl, d_int, d_str, d_tup, d_lst, d_scr, d_dct, d_ty, prS, bltS, tyS, boolR, oRes, oWd, walkS, fin, kit1, kit2, kit3, kit4, lenS, lim, sizeLine_eq, cmpS, bindT, setAll, kt_NoneType_tuple, kt_bool_tuple, kt_int_tuple, kt_str_tuple, kt_list_tuple, kt_dict_tuple]; done) | exact absurd ⟨_, _, rfl⟩ ht
    · cases th <;> first | rfl | exact absurd ⟨_, _, rfl⟩ ht
  obtain ⟨g, xs, rfl⟩ := ht
  by_cases h2 : xs.length = 2
  case neg =>
    have := ne_two h2
    refine run_yes (m1 := m) ?_ exs_retc ?_
    · simp [exs, ex, evT, ev_nm, ev_cst, ev_pr, ev_and, ev_or, ev_ite, ev_call, evs_nil, evs_cons, evs_star, ev_comp, ev_dcomp, evw_seq, evw_zip, evw_rngK, startR, bnd_ok, go_ok, seq_nx, seq_rt, exitS, prR, seesR, d_non, d_bl, d_int, d_str, d_tup, d_lst, d_scr, d_dct, d_ty, prS, bltS, tyS, boolR, oRes, oWd, walkS, fin, kit1, kit2, kit3, kit4, lenS, lim, sizeLine_eq, cmpS, bindT, setAll, kt_tuple_tuple, eq_int, -decide_eq_false_iff_not, this]
    · rcases xs with _ | ⟨a, _ | ⟨b, _ | ⟨c, r⟩⟩⟩
      · rfl
      · cases a <;> rfl
      · exact absurd rfl h2
      · cases a <;> first | rfl | (cases b <;> rfl)
  obtain ⟨a, b, rfl⟩ : ∃ a b, xs = [a, b] := by
    rcases xs with _ | ⟨a, _ | ⟨b, _ | ⟨c, r⟩⟩⟩
    · simp at h2
    · simp at h2
    · exact ⟨a, b, rfl⟩
    · simp at h2
  obtain ⟨hka, hkb, hkx⟩ := hg.two g a b rfl
  have ha := p_least0 (k + 1) a m hka
  have i0 : itemS (.tup g [a, b]) (.int 0) = some a := rfl
  cases hw : wh0 a with
  | false =>
    refine run_yes (m1 := m) ?_ exs_retc ?_
    · simp [exs, ex, evT, ev_nm, ev_cst, ev_pr, ev_and, ev_or, ev_ite, ev_call, evs_nil, evs_cons, evs_star, ev_comp, ev_dcomp, evw_seq, evw_zip, evw_rngK, startR, bnd_ok, go_ok, seq_nx, seq_rt, exitS, prR, seesR, d_non, d_bl, d_int, d_str, d_tup, d_lst, d_scr, d_dct, d_ty, prS, bltS, tyS, boolR, oRes, oWd, walkS, fin, kit1, kit2, kit3, kit4, lenS, lim, sizeLine_eq, cmpS, bindT, setAll, kt_tuple_tuple, eq_int, i0, ha, hw]
    · rw [pastB_wh hw]
  | true =>
  refine run_skip (m1 := m) (by simp [exs, ex, evT, ev_nm, ev_cst, ev_pr, ev_and, ev_or, ev_ite, ev_call, evs_nil, evs_cons, evs_star, ev_comp, ev_dcomp, evw_seq, evw_zip, evw_rngK, startR, bnd_ok, go_ok, seq_nx, seq_rt, exitS, prR, seesR, d_non, d_bl, d_int, d_str, d_tup, d_lst, d_scr, d_dct, d_ty, prS, bltS, tyS, boolR, oRes, oWd, walkS, fin, kit1, kit2, kit3, kit4, lenS, lim, sizeLine_eq, cmpS, bindT, setAll, kt_tuple_tuple, eq_int, i0, ha, hw]) ?_
  obtain ⟨now, rfl, hnow⟩ := wh0_int hw
  refine run_nx (hR lt es bs js (.tup g [.int now, b]) (.int now) b none none none none none none) m (by simp [exs, ex, evT, ev_nm, ev_cst, ev_pr, ev_and, ev_or, ev_ite, ev_call, evs_nil, evs_cons, evs_star, ev_comp, ev_dcomp, evw_seq, evw_zip, evw_rngK, startR, bnd_ok, go_ok, seq_nx, seq_rt, exitS, prR, seesR, d_non, d_bl, d_int, d_str, d_tup, d_lst, d_scr, d_dct, d_ty, prS, bltS, tyS, boolR, oRes, oWd, walkS, fin, kit1, kit2, kit3, kit4, lenS, lim, sizeLine_eq, cmpS, bindT, setAll]) ?_
  by_cases ht : ∃ g xs, b = .tup g xs
  case neg =>
    refine run_yes (m1 := m) ?_ exs_retc ?_
    · have : Lv T (k + 3) (PySem.Str.ofString "are_moments") [eP lt es bs js, .int now, b] m = .ok (.bl false) m := by
        rw [lv_are_moments _ _ rfl, bl_are_moments]
        cases b <;> first | (simp [knS] at hkb; done) | (simp [exs, ex, evT, ev_nm, ev_cst, ev_pr, ev_and, ev_or, ev_ite, ev_call, evs_nil, evs_cons, evs_star, ev_comp, ev_dcomp, evw_seq, evw_zip, evw_rngK, startR, bnd_ok, go_ok, seq_nx, seq_rt, exitS, prR, seesR, d_non, d_bl, d_int, d_str, d_tup, d_lst, d_scr, d_dct, d_ty, prS, bltS, tyS, boolR, oRes, oWd, walkS, fin, kit1, kit2, kit3, kit4, lenS, lim, sizeLine_eq, cmpS, bindT, setAll, kt_NoneType_tuple, kt_bool_tuple, kt_int_tuple, kt_str_tuple, kt_list_tuple, kt_dict_tuple]; done) | exact absurd ⟨_, _, rfl⟩ ht
      simp [exs, ex, evT, ev_nm, ev_cst, ev_pr, ev_and, ev_or, ev_ite, ev_call, evs_nil, evs_cons, evs_star, ev_comp, ev_dcomp, evw_seq, evw_zip, evw_rngK, startR, bnd_ok, go_ok, seq_nx, seq_rt, exitS, prR, seesR, d_non, d_bl, d_int, d_str, d_tup, d_lst, d_scr, d_dct, d_ty, prS, bltS, tyS, boolR, oRes, oWd, walkS, fin, kit1, kit2, kit3, kit4, lenS, lim, sizeLine_eq, cmpS, bindT, setAll, this]
    · rw [pastB_nt fun g xs e => ht ⟨g, xs, e⟩]
  obtain ⟨g2, xs, rfl⟩ := ht
  obtain ⟨hl, hk⟩ := hkx g2 xs rfl
  have hm := p_are_moments k (lt := lt) (es := es) (bs := bs) (js := js) now (g := g2) m hk hl
  cases hb : decide (xs.length = es.length) && !xs.any (badM now) with
  | false =>
    rw [hb] at hm
    refine run_yes (m1 := m) (by simp [exs, ex, evT, ev_nm, ev_cst, ev_pr, ev_and, ev_or, ev_ite, ev_call, evs_nil, evs_cons, evs_star, ev_comp, ev_dcomp, evw_seq, evw_zip, evw_rngK, startR, bnd_ok, go_ok, seq_nx, seq_rt, exitS, prR, seesR, d_non, d_bl, d_int, d_str, d_tup, d_lst, d_scr, d_dct, d_ty, prS, bltS, tyS, boolR, oRes, oWd, walkS, fin, kit1, kit2, kit3, kit4, lenS, lim, sizeLine_eq, cmpS, bindT, setAll, hm]) exs_retc ?_
    have : pastB es js (.tup g [.int now, .tup g2 xs]) = false := by
      simp only [pastB]
      rcases Bool.and_eq_false_iff.mp hb with h | h <;> simp [h]
    rw [this]
  | true =>
  rw [hb] at hm
  refine run_skip (m1 := m) (by simp [exs, ex, evT, ev_nm, ev_cst, ev_pr, ev_and, ev_or, ev_ite, ev_call, evs_nil, evs_cons, evs_star, ev_comp, ev_dcomp, evw_seq, evw_zip, evw_rngK, startR, bnd_ok, go_ok, seq_nx, seq_rt, exitS, prR, seesR, d_non, d_bl, d_int, d_str, d_tup, d_lst, d_scr, d_dct, d_ty, prS, bltS, tyS, boolR, oRes, oWd, walkS, fin, kit1, kit2, kit3, kit4, lenS, lim, sizeLine_eq, cmpS, bindT, setAll, hm]) ?_
  rw [Bool.and_eq_true, Bool.not_eq_true', decide_eq_true_eq] at hb
  obtain ⟨hlen, hbad⟩ := hb
  have hmv := good_mv hk hbad
  refine run_forX (m1 := m) (xs := js.map eJ) (ws := []) (fun ρ => ∃ x4 x5 x6 x7 x8 x9, ρ = hR lt es bs js (.tup g [.int now, .tup g2 xs]) (.int now) (.tup g2 xs) x4 x5 x6 x7 x8 x9) (cJ es now xs) (.bl false) ?_ (keeps_nil _ _) ⟨_, _, _, _, _, _, rfl⟩ ?_ ?_ ?_
  · have hsz : js.length ≤ 16777216 := by omega
    simp [exs, ex, evT, ev_nm, ev_cst, ev_pr, ev_and, ev_or, ev_ite, ev_call, evs_nil, evs_cons, evs_star, ev_comp, ev_dcomp, evw_seq, evw_zip, evw_rngK, startR, bnd_ok, go_ok, seq_nx, seq_rt, exitS, prR, seesR, d_non, d_bl, d_int, d_str, d_tup, d_lst, d_scr, d_dct, d_ty, prS, bltS, tyS, boolR, oRes, oWd, walkS, fin, kit1, kit2, kit3, kit4, lenS, lim, sizeLine_eq, cmpS, bindT, setAll, drf_eP, item3, hsz]
  · rintro x hx ρ ⟨x4, x5, x6, x7, x8, x9, rfl⟩
    obtain ⟨j, hjm, rfl⟩ := List.mem_map.mp hx
    have hj := hd.vp.jok j hjm
    refine ⟨_, rfl, ?_⟩
    have hw1 := p_momentV (k + 2) (lt := lt) (bs := bs) (js := js) (g := g2) (xs := xs) m hj.1 (hd.vp.nms _ hj.1).go hlen
    have hw2 := p_momentV (k + 2) (lt := lt) (bs := bs) (js := js) (g := g2) (xs := xs) m hj.2.1 (hd.vp.nms _ hj.2.1).go hlen
    have hv1 := wv_mv (es := es) (p := j.1) hmv
    have hv2 := wv_mv (es := es) (p := j.2.1) hmv
    have hc : cJ es now xs (eJ j) = badJ now j.2.2.1 j.2.2.2 (wv es xs j.1) (wv es xs j.2.1) := rfl
    rw [hc]
    generalize wv es xs j.1 = first at *
    generalize wv es xs j.2.1 = last at *
    exact hist_step (k + 3) m first last _ _ hw1 hw2 hv1 hv2
  · intro h
    rw [any_cJ] at h
    simp only [pastB, h]
    simp
  · rintro h ρ' ⟨x4, x5, x6, x7, x8, x9, rfl⟩
    rw [any_cJ] at h
    refine run_ret (p := .bl true) (m' := m) (by simp [exs, ex, evT, ev_nm, ev_cst, ev_pr, ev_and, ev_or, ev_ite, ev_call, evs_nil, evs_cons, evs_star, ev_comp, ev_dcomp, evw_seq, evw_zip, evw_rngK, startR, bnd_ok, go_ok, seq_nx, seq_rt, exitS, prR, seesR, d_non, d_bl, d_int, d_str, d_tup, d_lst, d_scr, d_dct, d_ty, prS, bltS, tyS, boolR, oRes, oWd, walkS, fin, kit1, kit2, kit3, kit4, lenS, lim, sizeLine_eq, cmpS, bindT, setAll]) ?_
    simp only [pastB, h, hbad, hlen, hnow]
    simp
end Sn.Lk08
namespace Sn.Lk08
open PySem PySem.Spec PyProof.Rows L2
variable {lt : Int} {es : List Str} {bs : List B3} {js : List J4} {rk : Str → Nat} {pre : Mu}
abbrev qR (lt : Int) (es : List Str) (bs : List B3) (js : List J4) (th nw q : PV) (x4 x5 x6 x7 x8 x9 x10 : Option PV) : Rho := [some (eP lt es bs js), some th, some nw, some q, x4, x5, x6, x7, x8, x9, x10]
def qBody : Stms := .cons (.par [9, 10] (.cons false (.call (PySem.Str.ofString "_law_worth") (.cons false (.nm 0) (.cons false (.nm 3) (.cons false (.nm 5) .nil)))) (.cons false (.call (PySem.Str.ofString "_law_worth") (.cons false (.nm 0) (.cons false (.nm 3) (.cons false (.nm 6) .nil)))) .nil))) (.cons (.ite (.and_ (.pr (.cmp .IsNot) (.cons false (.nm 10) (.cons false (.cst .non) .nil))) (.or_ (.pr (.cmp .Is) (.cons false (.nm 9) (.cons false (.cst .non) .nil))) (.or_ (.pr (.cmp .Lt) (.cons false (.pr (.bin .Sub) (.cons false (.nm 10) (.cons false (.nm 9) .nil))) (.cons false (.nm 7) .nil))) (.pr (.cmp .Gt) (.cons false (.pr (.bin .Sub) (.cons false (.nm 10) (.cons false (.nm 9) .nil))) (.cons false (.nm 8) .nil)))))) (.cons (.ret (.cst (.bl false))) .nil) .nil) (.cons (.ite (.and_ (.pr (.cmp .Is) (.cons false (.nm 10) (.cons false (.cst .non) .nil))) (.and_ (.pr (.cmp .IsNot) (.cons false (.nm 9) (.cons false (.cst .non) .nil))) (.pr (.cmp .GtE) (.cons false (.pr (.bin .Sub) (.cons false (.nm 2) (.cons false (.nm 9) .nil))) (.cons false (.nm 8) .nil))))) (.cons (.ret (.cst (.bl false))) .nil) .nil) .nil))
theorem past_step (k : Nat) {j : J4} {g2 : Bool} {xs : List PV} {th : PV} {now : Int} (m : Mu) (first last : PV) (x4 x9 x10 : Option PV)
    (hw1 : Lv T k (PySem.Str.ofString "_law_worth") [eP lt es bs js, .tup g2 xs, .str j.1] m = .ok first m) (hw2 : Lv T k (PySem.Str.ofString "_law_worth") [eP lt es bs js, .tup g2 xs, .str j.2.1] m = .ok last m) (hv1 : Mv first) (hv2 : Mv last) :
    (badJ now j.2.2.1 j.2.2.2 first last = true ∧ Run (Lv T k) qBody (qR lt es bs js th (.int now) (.tup g2 xs) x4 (some (.str j.1)) (some (.str j.2.1)) (some (.int j.2.2.1)) (some (.int j.2.2.2)) x9 x10) m fun y => y = .rt (.bl false) m) ∨
    (badJ now j.2.2.1 j.2.2.2 first last = false ∧ Run (Lv T k) qBody (qR lt es bs js th (.int now) (.tup g2 xs) x4 (some (.str j.1)) (some (.str j.2.1)) (some (.int j.2.2.1)) (some (.int j.2.2.2)) x9 x10) m fun y => ∃ ρ2, y = .nx ρ2 m ∧ ∃ x4 x5 x6 x7 x8 x9 x10, ρ2 = qR lt es bs js th (.int now) (.tup g2 xs) x4 x5 x6 x7 x8 x9 x10) := by
  unfold qBody
  have hpar : ∀ {Q : SR → Prop} {r : Stms}, Run (Lv T k) r (qR lt es bs js th (.int now) (.tup g2 xs) x4 (some (.str j.1)) (some (.str j.2.1)) (some (.int j.2.2.1)) (some (.int j.2.2.2)) (some first) (some last)) m Q → Run (Lv T k) (.cons (.par [9, 10] (.cons false (.call (PySem.Str.ofString "_law_worth") (.cons false (.nm 0) (.cons false (.nm 3) (.cons false (.nm 5) .nil)))) (.cons false (.call (PySem.Str.ofString "_law_worth") (.cons false (.nm 0) (.cons false (.nm 3) (.cons false (.nm 6) .nil)))) .nil))) r) (qR lt es bs js th (.int now) (.tup g2 xs) x4 (some (.str j.1)) (some (.str j.2.1)) (some (.int j.2.2.1)) (some (.int j.2.2.2)) x9 x10) m Q := fun h => run_nx _ m (by simp [exs, ex, evT, ev_nm, ev_cst, ev_pr, ev_and, ev_or, ev_ite, ev_call, evs_nil, evs_cons, evs_star, ev_comp, ev_dcomp, evw_seq, evw_zip, evw_rngK, startR, bnd_ok, go_ok, seq_nx, seq_rt, exitS, prR, seesR, d_non, d_bl, d_int, d_str, d_tup, d_lst, d_scr, d_dct, d_ty, prS, bltS, tyS, boolR, oRes, oWd, walkS, fin, kit1, kit2, kit3, kit4, lenS, lim, sizeLine_eq, cmpS, bindT, setAll, hw1, hw2]) h
  rcases hv2 with rfl | ⟨l, rfl⟩
  · rcases hv1 with rfl | ⟨f, rfl⟩
    · refine .inr ⟨rfl, hpar (run_skip (m1 := m) (by simp [exs, ex, evT, ev_nm, ev_cst, ev_pr, ev_and, ev_or, ev_ite, ev_call, evs_nil, evs_cons, evs_star, ev_comp, ev_dcomp, evw_seq, evw_zip, evw_rngK, startR, bnd_ok, go_ok, seq_nx, seq_rt, exitS, prR, seesR, d_non, d_bl, d_int, d_str, d_tup, d_lst, d_scr, d_dct, d_ty, prS, bltS, tyS, boolR, oRes, oWd, walkS, fin, kit1, kit2, kit3, kit4, lenS, lim, sizeLine_eq, cmpS, bindT, setAll, isS]) (run_skip (m1 := m) (by simp [exs, ex, evT, ev_nm, ev_cst, ev_pr, ev_and, ev_or, ev_ite, ev_call, evs_nil, evs_cons, evs_star, ev_comp, ev_dcomp, evw_seq, evw_zip, evw_rngK, startR, bnd_ok, go_ok, seq_nx, seq_rt, exitS, prR, seesR, d_non, d_bl, d_int, d_str, d_tup, d_lst, d_scr, d_dct, d_ty, prS, bltS, tyS, boolR, oRes, oWd, walkS, fin, kit1, kit2, kit3, kit4, lenS, lim, sizeLine_eq, cmpS, bindT, setAll, isS]) (run_nil ⟨_, rfl, _, _, _, _, _, _, _, rfl⟩)))⟩
    · by_cases h : j.2.2.2 ≤ now - f
      · refine .inl ⟨by simp [badJ, h], hpar (run_skip (m1 := m) (by simp [exs, ex, evT, ev_nm, ev_cst, ev_pr, ev_and, ev_or, ev_ite, ev_call, evs_nil, evs_cons, evs_star, ev_comp, ev_dcomp, evw_seq, evw_zip, evw_rngK, startR, bnd_ok, go_ok, seq_nx, seq_rt, exitS, prR, seesR, d_non, d_bl, d_int, d_str, d_tup, d_lst, d_scr, d_dct, d_ty, prS, bltS, tyS, boolR, oRes, oWd, walkS, fin, kit1, kit2, kit3, kit4, lenS, lim, sizeLine_eq, cmpS, bindT, setAll, isS]) (run_yes (m1 := m) ?_ exs_retc rfl))⟩
        have : ¬ now - f < j.2.2.2 := by omega
        simp [exs, ex, evT, ev_nm, ev_cst, ev_pr, ev_and, ev_or, ev_ite, ev_call, evs_nil, evs_cons, evs_star, ev_comp, ev_dcomp, evw_seq, evw_zip, evw_rngK, startR, bnd_ok, go_ok, seq_nx, seq_rt, exitS, prR, seesR, d_non, d_bl, d_int, d_str, d_tup, d_lst, d_scr, d_dct, d_ty, prS, bltS, tyS, boolR, oRes, oWd, walkS, fin, kit1, kit2, kit3, kit4, lenS, lim, sizeLine_eq, cmpS, bindT, setAll, isS, binS, ltS, this]
      · refine .inr ⟨by simp [badJ, h], hpar (run_skip (m1 := m) (by simp [exs, ex, evT, ev_nm, ev_cst, ev_pr, ev_and, ev_or, ev_ite, ev_call, evs_nil, evs_cons, evs_star, ev_comp, ev_dcomp, evw_seq, evw_zip, evw_rngK, startR, bnd_ok, go_ok, seq_nx, seq_rt, exitS, prR, seesR, d_non, d_bl, d_int, d_str, d_tup, d_lst, d_scr, d_dct, d_ty, prS, bltS, tyS, boolR, oRes, oWd, walkS, fin, kit1, kit2, kit3, kit4, lenS, lim, sizeLine_eq, cmpS, bindT, setAll, isS]) (run_skip (m1 := m) ?_ (run_nil ⟨_, rfl, _, _, _, _, _, _, _, rfl⟩)))⟩
        have : now - f < j.2.2.2 := by omega
        simp [exs, ex, evT, ev_nm, ev_cst, ev_pr, ev_and, ev_or, ev_ite, ev_call, evs_nil, evs_cons, evs_star, ev_comp, ev_dcomp, evw_seq, evw_zip, evw_rngK, startR, bnd_ok, go_ok, seq_nx, seq_rt, exitS, prR, seesR, d_non, d_bl, d_int, d_str, d_tup, d_lst, d_scr, d_dct, d_ty, prS, bltS, tyS, boolR, oRes, oWd, walkS, fin, kit1, kit2, kit3, kit4, lenS, lim, sizeLine_eq, cmpS, bindT, setAll, isS, binS, ltS, this]
  · rcases hv1 with rfl | ⟨f, rfl⟩
    · exact .inl ⟨rfl, hpar (run_yes (m1 := m) (by simp [exs, ex, evT, ev_nm, ev_cst, ev_pr, ev_and, ev_or, ev_ite, ev_call, evs_nil, evs_cons, evs_star, ev_comp, ev_dcomp, evw_seq, evw_zip, evw_rngK, startR, bnd_ok, go_ok, seq_nx, seq_rt, exitS, prR, seesR, d_non, d_bl, d_int, d_str, d_tup, d_lst, d_scr, d_dct, d_ty, prS, bltS, tyS, boolR, oRes, oWd, walkS, fin, kit1, kit2, kit3, kit4, lenS, lim, sizeLine_eq, cmpS, bindT, setAll, isS]) exs_retc rfl)⟩
    · by_cases h1 : l - f < j.2.2.1
      · refine .inl ⟨by simp [badJ, h1], hpar (run_yes (m1 := m) ?_ exs_retc rfl)⟩
        simp [exs, ex, evT, ev_nm, ev_cst, ev_pr, ev_and, ev_or, ev_ite, ev_call, evs_nil, evs_cons, evs_star, ev_comp, ev_dcomp, evw_seq, evw_zip, evw_rngK, startR, bnd_ok, go_ok, seq_nx, seq_rt, exitS, prR, seesR, d_non, d_bl, d_int, d_str, d_tup, d_lst, d_scr, d_dct, d_ty, prS, bltS, tyS, boolR, oRes, oWd, walkS, fin, kit1, kit2, kit3, kit4, lenS, lim, sizeLine_eq, cmpS, bindT, setAll, isS, binS, ltS, h1]
      · by_cases h2 : j.2.2.2 < l - f
        · refine .inl ⟨by simp [badJ, h2], hpar (run_yes (m1 := m) ?_ exs_retc rfl)⟩
          simp [exs, ex, evT, ev_nm, ev_cst, ev_pr, ev_and, ev_or, ev_ite, ev_call, evs_nil, evs_cons, evs_star, ev_comp, ev_dcomp, evw_seq, evw_zip, evw_rngK, startR, bnd_ok, go_ok, seq_nx, seq_rt, exitS, prR, seesR, d_non, d_bl, d_int, d_str, d_tup, d_lst, d_scr, d_dct, d_ty, prS, bltS, tyS, boolR, oRes, oWd, walkS, fin, kit1, kit2, kit3, kit4, lenS, lim, sizeLine_eq, cmpS, bindT, setAll, isS, binS, ltS, h1, h2]
        · refine .inr ⟨by simp [badJ, h1, h2], hpar (run_skip (m1 := m) ?_ (run_skip (m1 := m) (by simp [exs, ex, evT, ev_nm, ev_cst, ev_pr, ev_and, ev_or, ev_ite, ev_call, evs_nil, evs_cons, evs_star, ev_comp, ev_dcomp, evw_seq, evw_zip, evw_rngK, startR, bnd_ok, go_ok, seq_nx, seq_rt, exitS, prR, seesR, d_non, d_bl, d_int, d_str, d_tup, d_lst, d_scr, d_dct, d_ty, prS, bltS, tyS, boolR, oRes, oWd, walkS, fin, kit1, kit2, kit3, kit4, lenS, lim, sizeLine_eq, cmpS, bindT, setAll, isS]) (run_nil ⟨_, rfl, _, _, _, _, _, _, _, rfl⟩)))⟩
          simp [exs, ex, evT, ev_nm, ev_cst, ev_pr, ev_and, ev_or, ev_ite, ev_call, evs_nil, evs_cons, evs_star, ev_comp, ev_dcomp, evw_seq, evw_zip, evw_rngK, startR, bnd_ok, go_ok, seq_nx, seq_rt, exitS, prR, seesR, d_non, d_bl, d_int, d_str, d_tup, d_lst, d_scr, d_dct, d_ty, prS, bltS, tyS, boolR, oRes, oWd, walkS, fin, kit1, kit2, kit3, kit4, lenS, lim, sizeLine_eq, cmpS, bindT, setAll, isS, binS, ltS, h1, h2]
theorem any_fil {c : PV → Bool} : ∀ xs : List PV, ((xs.filter c).map id).isEmpty = !xs.any c
  | [] => rfl
  | x :: xs => by
    by_cases h : c x = true
    · simp [h]
    · have h' : c x = false := by simpa using h
      simp only [List.filter_cons, h', Bool.false_eq_true, if_false, any_fil xs, List.any_cons, Bool.false_or]
theorem p_law_is_past (k : Nat) (th : PV) (m : Mu) (hd : DP lt es bs js rk) (hg : Gd th) : Lv T (k + 2) (PySem.Str.ofString "_law_is_past") [eP lt es bs js, th] m = .ok (.bl (pastB es js th)) m := by
  have hel := hd.el
  have hjl := hd.jl
  rw [lv__law_is_past _ _ rfl, bl__law_is_past]
  suffices hh : Run (Lv T (k + 1)) _ (startR 11 [eP lt es bs js, th]) m fun x => x = .rt (.bl (pastB es js th)) m by
    rw [hh]
    exact exit_same (Nat.le_refl _) (fun _ => by simp)
  have hkn := hg.kn
  have hdr := kn_drf hkn m
  by_cases ht : ∃ g xs, th = .tup g xs
  case neg =>
    refine run_yes (m1 := m) ?_ exs_retc ?_
    · cases th <;> first | (simp [knS] at hkn; done) | (simp [exs, ex, evT, ev_nm, ev_cst, ev_pr, ev_and, ev_or, ev_ite, ev_call, evs_nil, evs_cons, evs_star, ev_comp, ev_dcomp, evw_seq, evw_zip, evw_rngK, startR, bnd_ok, go_ok, seq_nx, seq_rt, exitS, prR, seesR, d_non, d_bl, d_int, d_str, d_tup, d_lst, d_scr, d_dct, d_ty, prS, bltS, tyS, boolR, oRes, oWd, walkS, fin, kit1, kit2, kit3, kit4, lenS, lim, sizeLine_eq, cmpS, bindT, setAll, kt_NoneType_tuple, kt_bool_tuple, kt_int_tuple, kt_str_tuple, kt_list_tuple, kt_dict_tuple]; done) | exact absurd ⟨_, _, rfl⟩ ht
    · cases th <;> first | rfl | exact absurd ⟨_, _, rfl⟩ ht
  obtain ⟨g, xs, rfl⟩ := ht
  by_cases h2 : xs.length = 2
  case neg =>
    have := ne_two h2
    refine run_yes (m1 := m) ?_ exs_retc ?_
    · simp [exs, ex, evT, ev_nm, ev_cst, ev_pr, ev_and, ev_or, ev_ite, ev_call, evs_nil, evs_cons, evs_star, ev_comp, ev_dcomp, evw_seq, evw_zip, evw_rngK, startR, bnd_ok, go_ok, seq_nx, seq_rt, exitS, prR, seesR, d_non, d_bl, d_int, d_str, d_tup, d_lst, d_scr, d_dct, d_ty, prS, bltS, tyS, boolR, oRes, oWd, walkS, fin, kit1, kit2, kit3, kit4, lenS, lim, sizeLine_eq, cmpS, bindT, setAll, kt_tuple_tuple, eq_int, -decide_eq_false_iff_not, this]
    · rcases xs with _ | ⟨a, _ | ⟨b, _ | ⟨c, r⟩⟩⟩
      · rfl
      · cases a <;> rfl
      · exact absurd rfl h2
      · cases a <;> first | rfl | (cases b <;> rfl)
  obtain ⟨a, b, rfl⟩ : ∃ a b, xs = [a, b] := by
    rcases xs with _ | ⟨a, _ | ⟨b, _ | ⟨c, r⟩⟩⟩
    · simp at h2
    · simp at h2
    · exact ⟨a, b, rfl⟩
    · simp at h2
  obtain ⟨hka, hkb, hkx⟩ := hg.two g a b rfl
  have ha := p_whole0 k a m hka
  have i0 : itemS (.tup g [a, b]) (.int 0) = some a := rfl
  have i1 : itemS (.tup g [a, b]) (.int 1) = some b := rfl
  have hdb := kn_drf hkb m
  refine run_skip (m1 := m) (by simp [exs, ex, evT, ev_nm, ev_cst, ev_pr, ev_and, ev_or, ev_ite, ev_call, evs_nil, evs_cons, evs_star, ev_comp, ev_dcomp, evw_seq, evw_zip, evw_rngK, startR, bnd_ok, go_ok, seq_nx, seq_rt, exitS, prR, seesR, d_non, d_bl, d_int, d_str, d_tup, d_lst, d_scr, d_dct, d_ty, prS, bltS, tyS, boolR, oRes, oWd, walkS, fin, kit1, kit2, kit3, kit4, lenS, lim, sizeLine_eq, cmpS, bindT, setAll, kt_tuple_tuple, eq_int]) ?_
  cases hw : wh0 a with
  | false =>
    refine run_yes (m1 := m) ?_ exs_retc ?_
    · simp [exs, ex, evT, ev_nm, ev_cst, ev_pr, ev_and, ev_or, ev_ite, ev_call, evs_nil, evs_cons, evs_star, ev_comp, ev_dcomp, evw_seq, evw_zip, evw_rngK, startR, bnd_ok, go_ok, seq_nx, seq_rt, exitS, prR, seesR, d_non, d_bl, d_int, d_str, d_tup, d_lst, d_scr, d_dct, d_ty, prS, bltS, tyS, boolR, oRes, oWd, walkS, fin, kit1, kit2, kit3, kit4, lenS, lim, sizeLine_eq, cmpS, bindT, setAll, i0, ha, hw]
    · rw [pastB_wh hw]
  | true =>
  obtain ⟨now, rfl, hnow⟩ := wh0_int hw
  by_cases ht : ∃ g xs, b = .tup g xs
  case neg =>
    refine run_yes (m1 := m) ?_ exs_retc ?_
    · cases b <;> first | (simp [knS] at hkb; done) | (simp [exs, ex, evT, ev_nm, ev_cst, ev_pr, ev_and, ev_or, ev_ite, ev_call, evs_nil, evs_cons, evs_star, ev_comp, ev_dcomp, evw_seq, evw_zip, evw_rngK, startR, bnd_ok, go_ok, seq_nx, seq_rt, exitS, prR, seesR, d_non, d_bl, d_int, d_str, d_tup, d_lst, d_scr, d_dct, d_ty, prS, bltS, tyS, boolR, oRes, oWd, walkS, fin, kit1, kit2, kit3, kit4, lenS, lim, sizeLine_eq, cmpS, bindT, setAll, i0, i1, ha, hw, kt_NoneType_tuple, kt_bool_tuple, kt_int_tuple, kt_str_tuple, kt_list_tuple, kt_dict_tuple]; done) | exact absurd ⟨_, _, rfl⟩ ht
    · rw [pastB_nt fun g xs e => ht ⟨g, xs, e⟩]
  obtain ⟨g2, xs, rfl⟩ := ht
  refine run_skip (m1 := m) (by simp [exs, ex, evT, ev_nm, ev_cst, ev_pr, ev_and, ev_or, ev_ite, ev_call, evs_nil, evs_cons, evs_star, ev_comp, ev_dcomp, evw_seq, evw_zip, evw_rngK, startR, bnd_ok, go_ok, seq_nx, seq_rt, exitS, prR, seesR, d_non, d_bl, d_int, d_str, d_tup, d_lst, d_scr, d_dct, d_ty, prS, bltS, tyS, boolR, oRes, oWd, walkS, fin, kit1, kit2, kit3, kit4, lenS, lim, sizeLine_eq, cmpS, bindT, setAll, i0, i1, ha, hw, kt_tuple_tuple]) ?_
  obtain ⟨hl, hk⟩ := hkx g2 xs rfl
  refine run_nx (qR lt es bs js (.tup g [.int now, .tup g2 xs]) (.int now) (.tup g2 xs) none none none none none none none) m (by simp [exs, ex, evT, ev_nm, ev_cst, ev_pr, ev_and, ev_or, ev_ite, ev_call, evs_nil, evs_cons, evs_star, ev_comp, ev_dcomp, evw_seq, evw_zip, evw_rngK, startR, bnd_ok, go_ok, seq_nx, seq_rt, exitS, prR, seesR, d_non, d_bl, d_int, d_str, d_tup, d_lst, d_scr, d_dct, d_ty, prS, bltS, tyS, boolR, oRes, oWd, walkS, fin, kit1, kit2, kit3, kit4, lenS, lim, sizeLine_eq, cmpS, bindT, setAll]) ?_
  have hl1 : es.length ≤ 16777216 := by omega
  have hl2 : xs.length ≤ 16777216 := by omega
  by_cases hlen : xs.length = es.length
  case neg =>
    have hne : decide ((xs.length : Int) = (es.length : Int)) = false := by simp; omega
    refine run_yes (m1 := m) ?_ exs_retc ?_
    · simp [exs, ex, evT, ev_nm, ev_cst, ev_pr, ev_and, ev_or, ev_ite, ev_call, evs_nil, evs_cons, evs_star, ev_comp, ev_dcomp, evw_seq, evw_zip, evw_rngK, startR, bnd_ok, go_ok, seq_nx, seq_rt, exitS, prR, seesR, d_non, d_bl, d_int, d_str, d_tup, d_lst, d_scr, d_dct, d_ty, prS, bltS, tyS, boolR, oRes, oWd, walkS, fin, kit1, kit2, kit3, kit4, lenS, lim, sizeLine_eq, cmpS, bindT, setAll, drf_eP, item1, eN, eq_int, -decide_eq_false_iff_not, hne, hl1, hl2]
    · simp [pastB, hlen]
  have hne : decide ((xs.length : Int) = (es.length : Int)) = true := by simp; omega
  refine run_skip (m1 := m) (by simp [exs, ex, evT, ev_nm, ev_cst, ev_pr, ev_and, ev_or, ev_ite, ev_call, evs_nil, evs_cons, evs_star, ev_comp, ev_dcomp, evw_seq, evw_zip, evw_rngK, startR, bnd_ok, go_ok, seq_nx, seq_rt, exitS, prR, seesR, d_non, d_bl, d_int, d_str, d_tup, d_lst, d_scr, d_dct, d_ty, prS, bltS, tyS, boolR, oRes, oWd, walkS, fin, kit1, kit2, kit3, kit4, lenS, lim, sizeLine_eq, cmpS, bindT, setAll, drf_eP, item1, eN, eq_int, hlen, hl1, hl2]) ?_
  have hc : collect (stepC (Lv T (k + 1)) (.nm 4) [4] (.and_ (.pr (.cmp .IsNot) (.cons false (.nm 4) (.cons false (.cst .non) .nil))) (.or_ (.pr .not_ (.cons false (.call (PySem.Str.ofString "_law_is_whole") (.cons false (.nm 4) (.cons false (.cst (.int 0)) .nil))) .nil)) (.pr (.cmp .Gt) (.cons false (.nm 4) (.cons false (.nm 2) .nil))))) (.nm 4) (qR lt es bs js (.tup g [.int now, .tup g2 xs]) (.int now) (.tup g2 xs) none none none none none none none)) (keeps [] m) xs m = .ok ((xs.filter (badM now)).map id) m := by
    refine collect_filter (keeps_nil m m) fun y hy => ?_
    have h1 := p_whole0 k y m (hk y hy)
    have h2 := hk y hy
    cases y <;> first | (simp [knS] at h2; done) | (simp [stepC, stepD, bindT, wipeR, setAll, noX, ev, evs, bnd_ok, boolR, prR, seesR, d_non, d_bl, d_int, d_str, d_tup, d_lst, d_scr, d_dct, d_ty, prS, bltS, cmpS, oRes, isS, h1, wh0, badM]; done) | skip
    rename_i i
    by_cases h0 : 0 ≤ i
    · by_cases h3 : now < i
      · simp [stepC, stepD, bindT, wipeR, setAll, noX, ev, evs, bnd_ok, boolR, prR, seesR, d_non, d_bl, d_int, d_str, d_tup, d_lst, d_scr, d_dct, d_ty, prS, bltS, cmpS, oRes, isS, h1, wh0, badM, ltS, h0, h3]
      · simp [stepC, stepD, bindT, wipeR, setAll, noX, ev, evs, bnd_ok, boolR, prR, seesR, d_non, d_bl, d_int, d_str, d_tup, d_lst, d_scr, d_dct, d_ty, prS, bltS, cmpS, oRes, isS, h1, wh0, badM, ltS, h0, h3]
    · simp [stepC, stepD, bindT, wipeR, setAll, noX, ev, evs, bnd_ok, boolR, prR, seesR, d_non, d_bl, d_int, d_str, d_tup, d_lst, d_scr, d_dct, d_ty, prS, bltS, cmpS, oRes, isS, h1, wh0, badM, h0]
  have hsz : ((xs.filter (badM now)).map id).length ≤ 16777216 := by
    rw [List.length_map]
    exact Nat.le_trans (List.length_filter_le _ _) hl2
  generalize hys : (xs.filter (badM now)).map id = ys at *
  have hye : ys.isEmpty = !xs.any (badM now) := by rw [← hys, any_fil]
  have heq := eq_nilL ys
  cases hb : xs.any (badM now) with
  | true =>
    rw [hb] at hye
    rw [hye] at heq
    refine run_yes (m1 := m) (by simp [exs, ex, evT, ev_nm, ev_cst, ev_pr, ev_and, ev_or, ev_ite, ev_call, evs_nil, evs_cons, evs_star, ev_comp, ev_dcomp, evw_seq, evw_zip, evw_rngK, startR, bnd_ok, go_ok, seq_nx, seq_rt, exitS, prR, seesR, d_non, d_bl, d_int, d_str, d_tup, d_lst, d_scr, d_dct, d_ty, prS, bltS, tyS, boolR, oRes, oWd, walkS, fin, kit1, kit2, kit3, kit4, lenS, lim, sizeLine_eq, cmpS, bindT, setAll, hl2, hc, hsz, heq]) exs_retc ?_
    simp [pastB, hb]
  | false =>
  rw [hb] at hye
  rw [hye] at heq
  refine run_skip (m1 := m) (by simp [exs, ex, evT, ev_nm, ev_cst, ev_pr, ev_and, ev_or, ev_ite, ev_call, evs_nil, evs_cons, evs_star, ev_comp, ev_dcomp, evw_seq, evw_zip, evw_rngK, startR, bnd_ok, go_ok, seq_nx, seq_rt, exitS, prR, seesR, d_non, d_bl, d_int, d_str, d_tup, d_lst, d_scr, d_dct, d_ty, prS, bltS, tyS, boolR, oRes, oWd, walkS, fin, kit1, kit2, kit3, kit4, lenS, lim, sizeLine_eq, cmpS, bindT, setAll, hl2, hc, hsz, heq]) ?_
  have hmv := good_mv hk hb
  refine run_forX (m1 := m) (xs := js.map eJ) (ws := []) (fun ρ => ∃ x4 x5 x6 x7 x8 x9 x10, ρ = qR lt es bs js (.tup g [.int now, .tup g2 xs]) (.int now) (.tup g2 xs) x4 x5 x6 x7 x8 x9 x10) (cJ es now xs) (.bl false) ?_ (keeps_nil _ _) ⟨_, _, _, _, _, _, _, rfl⟩ ?_ ?_ ?_
  · have hsz : js.length ≤ 16777216 := by omega
    simp [exs, ex, evT, ev_nm, ev_cst, ev_pr, ev_and, ev_or, ev_ite, ev_call, evs_nil, evs_cons, evs_star, ev_comp, ev_dcomp, evw_seq, evw_zip, evw_rngK, startR, bnd_ok, go_ok, seq_nx, seq_rt, exitS, prR, seesR, d_non, d_bl, d_int, d_str, d_tup, d_lst, d_scr, d_dct, d_ty, prS, bltS, tyS, boolR, oRes, oWd, walkS, fin, kit1, kit2, kit3, kit4, lenS, lim, sizeLine_eq, cmpS, bindT, setAll, drf_eP, item3, hsz]
  · rintro x hx ρ ⟨x4, x5, x6, x7, x8, x9, x10, rfl⟩
    obtain ⟨j, hjm, rfl⟩ := List.mem_map.mp hx
    have hj := hd.vp.jok j hjm
    refine ⟨_, rfl, ?_⟩
    have hw1 := p_worthV k (lt := lt) (bs := bs) (js := js) (g := g2) (xs := xs) m hj.1 (hd.vp.nms _ hj.1).go hlen
    have hw2 := p_worthV k (lt := lt) (bs := bs) (js := js) (g := g2) (xs := xs) m hj.2.1 (hd.vp.nms _ hj.2.1).go hlen
    have hv1 := wv_mv (es := es) (p := j.1) hmv
    have hv2 := wv_mv (es := es) (p := j.2.1) hmv
    have hc : cJ es now xs (eJ j) = badJ now j.2.2.1 j.2.2.2 (wv es xs j.1) (wv es xs j.2.1) := rfl
    rw [hc]
    generalize wv es xs j.1 = first at *
    generalize wv es xs j.2.1 = last at *
    exact past_step (k + 1) m first last _ _ _ hw1 hw2 hv1 hv2
  · intro h
    rw [any_cJ] at h
    simp only [pastB, h]
    simp
  · rintro h ρ' ⟨x4, x5, x6, x7, x8, x9, x10, rfl⟩
    rw [any_cJ] at h
    refine run_ret (p := .bl true) (m' := m) (by simp [exs, ex, evT, ev_nm, ev_cst, ev_pr, ev_and, ev_or, ev_ite, ev_call, evs_nil, evs_cons, evs_star, ev_comp, ev_dcomp, evw_seq, evw_zip, evw_rngK, startR, bnd_ok, go_ok, seq_nx, seq_rt, exitS, prR, seesR, d_non, d_bl, d_int, d_str, d_tup, d_lst, d_scr, d_dct, d_ty, prS, bltS, tyS, boolR, oRes, oWd, walkS, fin, kit1, kit2, kit3, kit4, lenS, lim, sizeLine_eq, cmpS, bindT, setAll]) ?_
    simp only [pastB, h, hb, hlen, hnow]
    simp
end Sn.Lk08
namespace Sn.Lk08
open PySem PySem.Spec PyProof.Rows L2
variable {lt : Int} {es : List Str} {bs : List B3} {js : List J4} {rk : Str → Nat} {pre : Mu}
/-! ### a history bent -/
def Od (p : PV) : Prop := knS p = true ∧ ∀ g xs, p = .tup g xs → xs.length ≤ 1000 ∧ ∀ x ∈ xs, knS x = true
theorem Mv.kn {x : PV} (h : Mv x) : knS x = true := by rcases h with rfl | ⟨i, rfl⟩ <;> rfl
theorem od_nt {p : PV} (h : knS p = true) (hn : ∀ g xs, p ≠ .tup g xs) : Od p := ⟨h, fun g xs e => absurd e (hn g xs)⟩
theorem od_tup {g : Bool} {xs : List PV} (hl : xs.length ≤ 1000) (h : ∀ x ∈ xs, knS x = true) : Od (.tup g xs) := ⟨rfl, fun g' ys e => by cases e; exact ⟨hl, h⟩⟩
theorem gd_pair {g : Bool} {a b : PV} (ha : knS a = true) (hb : Od b) : Gd (.tup g [a, b]) := ⟨rfl, fun g' x y e => by cases e; exact ⟨ha, hb.1, hb.2⟩⟩
theorem gd_nt {p : PV} (h : knS p = true) (hn : ∀ g xs, p ≠ .tup g xs) : Gd p := ⟨h, fun g a b e => absurd e (hn _ _)⟩
theorem gd_len {g : Bool} {xs : List PV} (h : xs.length ≠ 2) : Gd (.tup g xs) := ⟨rfl, fun g' a b e => by cases e; exact absurd rfl h⟩
theorem gd_row {g : Bool} {xs : List PV} (h : ∀ x ∈ xs, Mv x) : Gd (.tup g xs) := ⟨rfl, fun g' a b e => by
  cases e
  have ha := h a (by simp)
  have hb := h b (by simp)
  refine ⟨ha.kn, hb.kn, fun g' ys e => ?_⟩
  subst e
  rcases hb with h | ⟨_, h⟩ <;> cases h⟩
theorem add_lst {xs ys : List PV} (h : xs.length + ys.length ≤ 16777216) : binS .Add (.lst xs) (.lst ys) = some (.lst (xs ++ ys)) := by
  show lim (xs.length + ys.length) (.lst (xs ++ ys)) = _
  unfold lim
  rw [sizeLine_eq, if_pos h]
theorem max_one (n : Nat) (h : n < 1000) : ∃ W : Int, maxS [.int 1, .int n] = some (.int W) ∧ 0 < W ∧ W < 1000 := by
  refine ⟨if (n : Int) > 1 then n else 1, rfl, ?_, ?_⟩ <;> split <;> omega
theorem mem_cutP {x : PV} {xs : List PV} {lo hi : Option Int} (h : x ∈ cutP xs lo hi) : x ∈ xs := List.mem_of_mem_drop (List.mem_of_mem_take h)
theorem len_cutP (xs : List PV) (lo hi : Option Int) : (cutP xs lo hi).length ≤ xs.length := by
  unfold cutP
  rw [List.length_take, List.length_drop]
  omega
abbrev bR (p : Nat) (th : PV) (now : Int) (q : PV) (x4 x5 x6 x7 x8 : Option PV) : Rho := [some (.loc p), some th, some (.int now), some q, x4, x5, x6, x7, x8]
def oddL (now : Int) : List PV := [.non, .bl true, .bl false, .str (PySem.Str.ofString "1"), .tup true [.int 1], .lst [], .dct (.k []) [], .int (-1), .int (now + 1), .int now, .int 0, .int (now - 1)]
theorem od_odd {now : Int} : ∀ x ∈ oddL now, Od x := by
  intro x hx
  simp only [oddL, List.mem_cons, List.not_mem_nil, or_false] at hx
  rcases hx with rfl | rfl | rfl | rfl | rfl | rfl | rfl | rfl | rfl | rfl | rfl | rfl <;> first | exact od_tup (by simp) (by simp [knS]) | exact od_nt rfl (by simp)
theorem p_law_bent_part (k : Nat) {M : Nat} {r m : Mu} (h : Sk pre M r m) (now : Int) {q : PV} (hq : Mt es q) (he : es.length ≤ 100) (hM : M < 600000) : ∃ (th : PV) (m' : Mu), Lv T (k + 2) (PySem.Str.ofString "_law_bent_part") [.loc pre.length, .tup true [.int now, q]] m = .ok th m' ∧ Sk pre (M + 6) r m' ∧ Gd th := by
  have hlen0 := sk_len h
  obtain ⟨g, xs, rfl, hl, hv⟩ := hq
  rw [lv__law_bent_part _ _ rfl, bl__law_bent_part]
  suffices hh : Run (Lv T (k + 1)) _ (startR 9 [.loc pre.length, .tup true [.int now, .tup g xs]]) m fun x => ∃ (th : PV) (m' : Mu), x = .rt th m' ∧ Sk pre (M + 6) r m' ∧ Gd th by
    obtain ⟨th, m', e, hs, hg⟩ := hh
    refine ⟨th, m', ?_, hs, hg⟩
    rw [e]
    exact exit_same (by rw [sk_len hs, hlen0]; omega) (fun l e => by have := hg.kn; rw [e] at this; simp [knS] at this)
  have hsz : xs.length ≤ 16777216 := by omega
  have hkx : ∀ x ∈ xs, knS x = true := fun x hx => (hv x hx).kn
  refine run_nx (bR pre.length (.tup true [.int now, .tup g xs]) now (.tup g xs) none none none none none) m (by simp [exs, ex, evT, ev_nm, ev_cst, ev_pr, ev_and, ev_or, ev_ite, ev_call, evs_nil, evs_cons, evs_star, ev_comp, ev_dcomp, evw_seq, evw_zip, evw_rngK, startR, bnd_ok, go_ok, seq_nx, seq_rt, exitS, prR, seesR, d_non, d_bl, d_int, d_str, d_tup, d_lst, d_scr, d_dct, d_ty, prS, bltS, tyS, boolR, oRes, oWd, walkS, fin, kit1, kit2, kit3, kit4, lenS, lim, sizeLine_eq, cmpS, bindT, setAll]) ?_
  obtain ⟨W, hW, hW1, hW2⟩ := max_one xs.length (by omega)
  obtain ⟨d, m1, e1, hd1, h1⟩ := sk_dip k h W hW1 hW2 (by omega)
  refine run_nx (bR pre.length (.tup true [.int now, .tup g xs]) now (.tup g xs) (some (.int (d : Nat))) none none none none) m1 (by simp [exs, ex, evT, ev_nm, ev_cst, ev_pr, ev_and, ev_or, ev_ite, ev_call, evs_nil, evs_cons, evs_star, ev_comp, ev_dcomp, evw_seq, evw_zip, evw_rngK, startR, bnd_ok, go_ok, seq_nx, seq_rt, exitS, prR, seesR, d_non, d_bl, d_int, d_str, d_tup, d_lst, d_scr, d_dct, d_ty, prS, bltS, tyS, boolR, oRes, oWd, walkS, fin, kit1, kit2, kit3, kit4, lenS, lim, sizeLine_eq, cmpS, bindT, setAll, hW, hsz, e1]) ?_
  obtain ⟨d2, m2, e2, hd2, h2⟩ := sk_dip k h1 12 (by omega) (by omega) (by omega)
  obtain ⟨o, ho, hod⟩ : ∃ o, itemS (.lst (oddL now)) (.int (d2 : Nat)) = some o ∧ Od o := by
    have hlt : d2 < (oddL now).length := by
      show d2 < 12
      omega
    exact ⟨_, at_gen hlt, od_odd _ (List.getElem_mem hlt)⟩
  unfold oddL at ho
  refine run_nx (bR pre.length (.tup true [.int now, .tup g xs]) now (.tup g xs) (some (.int (d : Nat))) (some o) none none none) m2 (by simp [exs, ex, evT, ev_nm, ev_cst, ev_pr, ev_and, ev_or, ev_ite, ev_call, evs_nil, evs_cons, evs_star, ev_comp, ev_dcomp, evw_seq, evw_zip, evw_rngK, startR, bnd_ok, go_ok, seq_nx, seq_rt, exitS, prR, seesR, d_non, d_bl, d_int, d_str, d_tup, d_lst, d_scr, d_dct, d_ty, prS, bltS, tyS, boolR, oRes, oWd, walkS, fin, kit1, kit2, kit3, kit4, lenS, lim, sizeLine_eq, cmpS, bindT, setAll, binS, e2, ho]) ?_
  obtain ⟨g1, c1⟩ := cut_tup (g := g) (xs := xs) none (some (d : Int))
  obtain ⟨g2, c2⟩ := cut_tup (g := g) (xs := xs) (some ((d : Int) + 1)) none
  have z1 := len_cutP xs none (some (d : Int))
  have z2 := len_cutP xs (some ((d : Int) + 1)) none
  obtain ⟨g3, c3⟩ := add_tup (g := g1) (g' := true) (xs := cutP xs none (some (d : Int))) (ys := [o]) (by simp; omega)
  obtain ⟨g4, c4⟩ := add_tup (g := g3) (g' := g2) (xs := cutP xs none (some (d : Int)) ++ [o]) (ys := cutP xs (some ((d : Int) + 1)) none) (by simp; omega)
  have hodY : Od (.tup g4 (cutP xs none (some (d : Int)) ++ [o] ++ cutP xs (some ((d : Int) + 1)) none)) := by
    refine od_tup ?_ fun x hx => ?_
    · simp only [List.length_append, List.length_singleton]
      omega
    · rcases List.mem_append.mp hx with hx | hx
      · rcases List.mem_append.mp hx with hx | hx
        · exact hkx _ (mem_cutP hx)
        · rw [List.mem_singleton.mp hx]; exact hod.1
      · exact hkx _ (mem_cutP hx)
  generalize cutP xs none (some (d : Int)) = A1 at *
  generalize cutP xs (some ((d : Int) + 1)) none = A2 at *
  generalize A1 ++ [o] = A3 at *
  generalize A3 ++ A2 = A4 at *
  have hrng := rng_nat (n := 4) (by omega) m2
  have hc : collect (stepC (Lv T (k + 1)) (.nm 7) [7] (.cst (.bl true)) (.pr .tup (.cons false (.nm 2) (.cons false (.pr (.bin .Add) (.cons false (.pr (.bin .Add) (.cons false (.pr (.slc false true) (.cons false (.nm 3) (.cons false (.nm 4) .nil))) (.cons false (.pr .tup (.cons false (.nm 5) .nil)) .nil))) (.cons false (.pr (.slc true false) (.cons false (.nm 3) (.cons false (.pr (.bin .Add) (.cons false (.nm 4) (.cons false (.cst (.int 1)) .nil))) .nil))) .nil))) .nil))) (bR pre.length (.tup true [.int now, .tup g xs]) now (.tup g xs) (some (.int (d : Nat))) (some o) none none none)) (keeps [] m2) ((List.range 4).map fun k => .int (k : Nat)) m2 = .ok (((List.range 4).map fun k => PV.int (k : Nat)).map fun _ => .tup true [.int now, .tup g4 A4]) m2 :=
    collect_map (keeps_nil m2 m2) fun y hy => by simp [stepC, stepD, bindT, wipeR, setAll, noX, ev, evs, bnd_ok, boolR, prR, seesR, d_non, d_bl, d_int, d_str, d_tup, d_lst, d_scr, d_dct, d_ty, prS, bltS, cmpS, oRes, c1, c2, c3, c4, binS.eq_1, lim, sizeLine_eq]
  have hr4 : (((List.range 4).map fun k => PV.int (k : Nat)).map fun _ => PV.tup true [.int now, .tup g4 A4]) = [.tup true [.int now, .tup g4 A4], .tup true [.int now, .tup g4 A4], .tup true [.int now, .tup g4 A4], .tup true [.int now, .tup g4 A4]] := rfl
  rw [hr4] at hc
  have hg1 : ∀ x ∈ [PV.tup true [.int now, .tup g4 A4], .tup true [.int now, .tup g4 A4], .tup true [.int now, .tup g4 A4], .tup true [.int now, .tup g4 A4]], Gd x := by
    intro x hx
    simp only [List.mem_cons, List.not_mem_nil, or_false, or_self] at hx
    subst hx
    exact gd_pair rfl hodY
  have hl1 : [PV.tup true [.int now, .tup g4 A4], .tup true [.int now, .tup g4 A4], .tup true [.int now, .tup g4 A4], .tup true [.int now, .tup g4 A4]].length = 4 := rfl
  generalize [PV.tup true [.int now, .tup g4 A4], .tup true [.int now, .tup g4 A4], .tup true [.int now, .tup g4 A4], .tup true [.int now, .tup g4 A4]] = S1 at *
  refine run_nx (bR pre.length (.tup true [.int now, .tup g xs]) now (.tup g xs) (some (.int (d : Nat))) (some o) (some (.lst S1)) none none) m2 (by simp at hrng; simp [exs, ex, evT, ev_nm, ev_cst, ev_pr, ev_and, ev_or, ev_ite, ev_call, evs_nil, evs_cons, evs_star, ev_comp, ev_dcomp, evw_seq, evw_zip, evw_rngK, startR, bnd_ok, go_ok, seq_nx, seq_rt, exitS, prR, seesR, d_non, d_bl, d_int, d_str, d_tup, d_lst, d_scr, d_dct, d_ty, prS, bltS, tyS, boolR, oRes, oWd, walkS, fin, kit1, kit2, kit3, kit4, lenS, lim, sizeLine_eq, cmpS, bindT, setAll, hrng, hc]) ?_
  obtain ⟨d3, m3, e3, hd3, h3⟩ := sk_dip k h2 4 (by omega) (by omega) (by omega)
  obtain ⟨d4, m4, e4, hd4, h4⟩ := sk_dip k h3 80 (by omega) (by omega) (by omega)
  obtain ⟨d5, m5, e5, hd5, h5⟩ := sk_dip k h4 2 (by omega) (by omega) (by omega)
  obtain ⟨v, hv5⟩ : ∃ v : Nat, itemS (.lst [.int (d3 : Nat), .int (d4 : Nat)]) (.int (d5 : Nat)) = some (.int (v : Nat)) := by
    have : d5 = 0 ∨ d5 = 1 := by omega
    rcases this with rfl | rfl
    · exact ⟨d3, rfl⟩
    · exact ⟨d4, rfl⟩
  refine run_nx (bR pre.length (.tup true [.int now, .tup g xs]) now (.tup g xs) (some (.int (d : Nat))) (some o) (some (.lst S1)) none (some (.int (now + (v : Nat))))) m5 (by simp [exs, ex, evT, ev_nm, ev_cst, ev_pr, ev_and, ev_or, ev_ite, ev_call, evs_nil, evs_cons, evs_star, ev_comp, ev_dcomp, evw_seq, evw_zip, evw_rngK, startR, bnd_ok, go_ok, seq_nx, seq_rt, exitS, prR, seesR, d_non, d_bl, d_int, d_str, d_tup, d_lst, d_scr, d_dct, d_ty, prS, bltS, tyS, boolR, oRes, oWd, walkS, fin, kit1, kit2, kit3, kit4, lenS, lim, sizeLine_eq, cmpS, bindT, setAll, binS.eq_1, e3, e4, e5, hv5]) ?_
  have hodx : Od (.tup g xs) := od_tup (by omega) hkx
  have a1 : binS .Add (.lst S1) (.lst [.tup true [o, .tup g xs], .tup true [.int (now + (v : Nat)), .tup g xs], .tup true [.int now, .lst xs]]) = some (.lst (S1 ++ [.tup true [o, .tup g xs], .tup true [.int (now + (v : Nat)), .tup g xs], .tup true [.int now, .lst xs]])) := add_lst (by rw [hl1]; simp)
  have hg2 : ∀ x ∈ S1 ++ [.tup true [o, .tup g xs], .tup true [.int (now + (v : Nat)), .tup g xs], .tup true [.int now, .lst xs]], Gd x := by
    intro x hx
    rcases List.mem_append.mp hx with hx | hx
    · exact hg1 x hx
    · simp only [List.mem_cons, List.not_mem_nil, or_false] at hx
      rcases hx with rfl | rfl | rfl
      · exact gd_pair hod.1 hodx
      · exact gd_pair rfl hodx
      · exact gd_pair rfl (od_nt rfl (by simp))
  have hl2 : (S1 ++ [PV.tup true [o, .tup g xs], .tup true [.int (now + (v : Nat)), .tup g xs], .tup true [.int now, .lst xs]]).length = 7 := by rw [List.length_append, hl1]; rfl
  generalize S1 ++ [PV.tup true [o, .tup g xs], .tup true [.int (now + (v : Nat)), .tup g xs], .tup true [.int now, .lst xs]] = S2 at *
  refine run_nx (bR pre.length (.tup true [.int now, .tup g xs]) now (.tup g xs) (some (.int (d : Nat))) (some o) (some (.lst S2)) none (some (.int (now + (v : Nat))))) m5 (by simp [exs, ex, evT, ev_nm, ev_cst, ev_pr, ev_and, ev_or, ev_ite, ev_call, evs_nil, evs_cons, evs_star, ev_comp, ev_dcomp, evw_seq, evw_zip, evw_rngK, startR, bnd_ok, go_ok, seq_nx, seq_rt, exitS, prR, seesR, d_non, d_bl, d_int, d_str, d_tup, d_lst, d_scr, d_dct, d_ty, prS, bltS, tyS, boolR, oRes, oWd, walkS, fin, kit1, kit2, kit3, kit4, lenS, lim, sizeLine_eq, cmpS, bindT, setAll, itemsS, a1]) ?_
  obtain ⟨g5, c5⟩ := add_tup (g := g) (g' := true) (xs := xs) (ys := [.int 0]) (by simp; omega)
  obtain ⟨g6, c6⟩ := cut_tup (g := g) (xs := xs) none (some (-1))
  have z3 := len_cutP xs none (some (-1))
  have hod5 : Od (.tup g5 (xs ++ [.int 0])) := by
    refine od_tup (by simp; omega) fun x hx => ?_
    rcases List.mem_append.mp hx with hx | hx
    · exact hkx _ hx
    · rw [List.mem_singleton.mp hx]; rfl
  have hod6 : Od (.tup g6 (cutP xs none (some (-1)))) := od_tup (by omega) fun x hx => hkx _ (mem_cutP hx)
  generalize cutP xs none (some (-1)) = A6 at *
  generalize xs ++ [PV.int 0] = A5 at *
  have a2 : binS .Add (.lst S2) (.lst [.tup true [.int now, .tup g5 A5], .tup true [.int now, .tup g6 A6], .lst [.int now, .tup g xs], .tup true [.int now], .non, .int 0]) = some (.lst (S2 ++ [.tup true [.int now, .tup g5 A5], .tup true [.int now, .tup g6 A6], .lst [.int now, .tup g xs], .tup true [.int now], .non, .int 0])) := add_lst (by rw [hl2]; simp)
  have hg3 : ∀ x ∈ S2 ++ [.tup true [.int now, .tup g5 A5], .tup true [.int now, .tup g6 A6], .lst [.int now, .tup g xs], .tup true [.int now], .non, .int 0], Gd x := by
    intro x hx
    rcases List.mem_append.mp hx with hx | hx
    · exact hg2 x hx
    · simp only [List.mem_cons, List.not_mem_nil, or_false] at hx
      rcases hx with rfl | rfl | rfl | rfl | rfl | rfl
      · exact gd_pair rfl hod5
      · exact gd_pair rfl hod6
      · exact gd_nt rfl (by simp)
      · exact gd_len (by simp)
      · exact gd_nt rfl (by simp)
      · exact gd_nt rfl (by simp)
  have hl3 : (S2 ++ [PV.tup true [.int now, .tup g5 A5], .tup true [.int now, .tup g6 A6], .lst [.int now, .tup g xs], .tup true [.int now], .non, .int 0]).length = 13 := by rw [List.length_append, hl2]; rfl
  generalize S2 ++ [PV.tup true [.int now, .tup g5 A5], .tup true [.int now, .tup g6 A6], .lst [.int now, .tup g xs], .tup true [.int now], .non, .int 0] = S3 at *
  refine run_nx (bR pre.length (.tup true [.int now, .tup g xs]) now (.tup g xs) (some (.int (d : Nat))) (some o) (some (.lst S3)) none (some (.int (now + (v : Nat))))) m5 (by simp [exs, ex, evT, ev_nm, ev_cst, ev_pr, ev_and, ev_or, ev_ite, ev_call, evs_nil, evs_cons, evs_star, ev_comp, ev_dcomp, evw_seq, evw_zip, evw_rngK, startR, bnd_ok, go_ok, seq_nx, seq_rt, exitS, prR, seesR, d_non, d_bl, d_int, d_str, d_tup, d_lst, d_scr, d_dct, d_ty, prS, bltS, tyS, boolR, oRes, oWd, walkS, fin, kit1, kit2, kit3, kit4, lenS, lim, sizeLine_eq, cmpS, bindT, setAll, c5, c6, a2]) ?_
  have a3 : binS .Add (.lst S3) (.lst [.str (PySem.Str.ofString "at 0"), .dct (.k []) [], .tup true [.int now, .tup g xs, .int 0], .tup true [.tup g xs, .int now], .tup true [.int now, .tup false xs.reverse], .tup g xs]) = some (.lst (S3 ++ [.str (PySem.Str.ofString "at 0"), .dct (.k []) [], .tup true [.int now, .tup g xs, .int 0], .tup true [.tup g xs, .int now], .tup true [.int now, .tup false xs.reverse], .tup g xs])) := add_lst (by rw [hl3]; simp)
  have hg4 : ∀ x ∈ S3 ++ [.str (PySem.Str.ofString "at 0"), .dct (.k []) [], .tup true [.int now, .tup g xs, .int 0], .tup true [.tup g xs, .int now], .tup true [.int now, .tup false xs.reverse], .tup g xs], Gd x := by
    intro x hx
    rcases List.mem_append.mp hx with hx | hx
    · exact hg3 x hx
    · simp only [List.mem_cons, List.not_mem_nil, or_false] at hx
      rcases hx with rfl | rfl | rfl | rfl | rfl | rfl
      · exact gd_nt rfl (by simp)
      · exact gd_nt rfl (by simp)
      · exact gd_len (by simp)
      · exact gd_pair rfl (od_nt rfl (by simp))
      · exact gd_pair rfl (od_tup (by rw [List.length_reverse]; omega) fun x hx => hkx x (List.mem_reverse.mp hx))
      · exact gd_row hv
  have hl4 : (S3 ++ [PV.str (PySem.Str.ofString "at 0"), .dct (.k []) [], .tup true [.int now, .tup g xs, .int 0], .tup true [.tup g xs, .int now], .tup true [.int now, .tup false xs.reverse], .tup g xs]).length = 19 := by rw [List.length_append, hl3]; rfl
  generalize hS4 : S3 ++ [PV.str (PySem.Str.ofString "at 0"), .dct (.k []) [], .tup true [.int now, .tup g xs, .int 0], .tup true [.tup g xs, .int now], .tup true [.int now, .tup false xs.reverse], .tup g xs] = S4 at *
  refine run_nx (bR pre.length (.tup true [.int now, .tup g xs]) now (.tup g xs) (some (.int (d : Nat))) (some o) (some (.lst S4)) none (some (.int (now + (v : Nat))))) m5 (by simp [exs, ex, evT, ev_nm, ev_cst, ev_pr, ev_and, ev_or, ev_ite, ev_call, evs_nil, evs_cons, evs_star, ev_comp, ev_dcomp, evw_seq, evw_zip, evw_rngK, startR, bnd_ok, go_ok, seq_nx, seq_rt, exitS, prR, seesR, d_non, d_bl, d_int, d_str, d_tup, d_lst, d_scr, d_dct, d_ty, prS, bltS, tyS, boolR, oRes, oWd, walkS, fin, kit1, kit2, kit3, kit4, lenS, lim, sizeLine_eq, cmpS, bindT, setAll, revS, a3]) ?_
  obtain ⟨d6, m6, e6, hd6, h6⟩ := sk_dip k h5 19 (by omega) (by omega) (by omega)
  have hlt : d6 < S4.length := by omega
  have hit : itemS (.lst S4) (.int (d6 : Nat)) = some S4[d6] := at_gen hlt
  refine run_ret (p := S4[d6]) (m' := m6) (by simp [exs, ex, evT, ev_nm, ev_cst, ev_pr, ev_and, ev_or, ev_ite, ev_call, evs_nil, evs_cons, evs_star, ev_comp, ev_dcomp, evw_seq, evw_zip, evw_rngK, startR, bnd_ok, go_ok, seq_nx, seq_rt, exitS, prR, seesR, d_non, d_bl, d_int, d_str, d_tup, d_lst, d_scr, d_dct, d_ty, prS, bltS, tyS, boolR, oRes, oWd, walkS, fin, kit1, kit2, kit3, kit4, lenS, lim, sizeLine_eq, cmpS, bindT, setAll, hl4, e6, hit]) ⟨_, _, rfl, h6.mono (by omega), hg4 _ (List.getElem_mem hlt)⟩
end Sn.Lk08
namespace Sn.Lk08
open PySem PySem.Spec PyProof.Rows L2
variable {lt : Int} {es : List Str} {bs : List B3} {js : List J4} {rk : Str → Nat} {pre : Mu}
theorem p_is_history (k : Nat) (th : PV) (m : Mu) (hd : DP lt es bs js rk) (hg : Gd th) : Lv T (k + 7) (PySem.Str.ofString "is_history") [eP lt es bs js, th] m = .ok (.bl (pastB es js th)) m := by
  have h1 := p_check_plan k hd.vp m
  have h2 := p_is_history_of (k + 2) th m hd hg
  rw [lv_is_history _ _ rfl, bl_is_history]
  simp [exs, ex, evT, ev_nm, ev_cst, ev_pr, ev_and, ev_or, ev_ite, ev_call, evs_nil, evs_cons, evs_star, ev_comp, ev_dcomp, evw_seq, evw_zip, evw_rngK, startR, bnd_ok, go_ok, seq_nx, seq_rt, exitS, prR, seesR, d_non, d_bl, d_int, d_str, d_tup, d_lst, d_scr, d_dct, d_ty, prS, bltS, tyS, boolR, oRes, oWd, walkS, fin, kit1, kit2, kit3, kit4, lenS, lim, sizeLine_eq, cmpS, bindT, setAll, h1, h2]
theorem eq_bl (b c : Bool) : eqS (.bl b) (.bl c) = some (b == c) := by
  cases b <;> cases c <;> simp [eqS, toD, dep, PyData.eqv]
theorem p_twin_bl (k : Nat) (a : Bool) (m : Mu) : Lv T (k + 1) (PySem.Str.ofString "_law_twin") [.bl a, .bl a] m = .ok (.bl true) m := by
  rw [lv__law_twin _ _ rfl, bl__law_twin]
  suffices hh : Run (Lv T k) _ (startR 3 [.bl a, .bl a]) m fun x => x = .rt (.bl true) m by
    rw [hh]
    exact exit_same (Nat.le_refl _) (fun _ => by simp)
  refine run_yes (v := .bl true) (m2 := m) (m1 := m) (by simp [exs, ex, evT, ev_nm, ev_cst, ev_pr, ev_and, ev_or, ev_ite, ev_call, evs_nil, evs_cons, evs_star, ev_comp, ev_dcomp, evw_seq, evw_zip, evw_rngK, startR, bnd_ok, go_ok, seq_nx, seq_rt, exitS, prR, seesR, d_non, d_bl, d_int, d_str, d_tup, d_lst, d_scr, d_dct, d_ty, prS, bltS, tyS, boolR, oRes, oWd, walkS, fin, kit1, kit2, kit3, kit4, lenS, lim, sizeLine_eq, cmpS, bindT, setAll, kt_bool_bool]) ?_ rfl
  simp [exs, ex, evT, ev_nm, ev_cst, ev_pr, ev_and, ev_or, ev_ite, ev_call, evs_nil, evs_cons, evs_star, ev_comp, ev_dcomp, evw_seq, evw_zip, evw_rngK, startR, bnd_ok, go_ok, seq_nx, seq_rt, exitS, prR, seesR, d_non, d_bl, d_int, d_str, d_tup, d_lst, d_scr, d_dct, d_ty, prS, bltS, tyS, boolR, oRes, oWd, walkS, fin, kit1, kit2, kit3, kit4, lenS, lim, sizeLine_eq, cmpS, bindT, setAll, kt_bool_bool, eq_bl]
abbrev tCond : Ex := .pr .not_ (.cons false (.call (PySem.Str.ofString "_law_twin") (.cons false (.pr .item (.cons false (.nm 0) (.cons false (.nm 2) .nil))) (.cons false (.pr .item (.cons false (.nm 1) (.cons false (.nm 2) .nil))) .nil))) .nil)
theorem twin_walk {Φ : FEnv} {m : Mu} {p q : PV} {n : Nat} (h : ∀ i, i < n → ∃ x y, itemS (drf m p) (.int (i : Nat)) = some x ∧ itemS (drf m q) (.int (i : Nat)) = some y ∧ Φ (PySem.Str.ofString "_law_twin") [x, y] m = .ok (.bl true) m) : collect (stepC Φ (.nm 2) [2] tCond (.nm 2) [some p, some q, none]) (keeps [] m) ((List.range n).map fun k => .int (k : Nat)) m = .ok [] m := by
  rw [collect_filter (g := id) (c := fun _ => false) (keeps_nil m m) fun y hy => ?_]
  · simp
  · obtain ⟨i, hi, rfl⟩ := List.mem_map.mp hy
    obtain ⟨x, y, h1, h2, h3⟩ := h i (List.mem_range.mp hi)
    simp [stepC, bindT, wipeR, noX, tCond, ev_pr, ev_nm, ev_call, evs_cons, evs_nil, Res.bind, boolR, prR, seesR, prS, oRes, h1, h2, h3, show drf m (.int (i : Nat)) = .int (i : Nat) from rfl, show drf m (.bl true) = .bl true from rfl]
theorem p_twin_two (k : Nat) (a : Bool) (m : Mu) : Lv T (k + 2) (PySem.Str.ofString "_law_twin") [.lst [.bl a, .bl a], .lst [.bl a, .bl a]] m = .ok (.bl true) m := by
  have hw := twin_walk (Φ := Lv T (k + 1)) (m := m) (p := .lst [.bl a, .bl a]) (q := .lst [.bl a, .bl a]) (n := 2) fun i hi => by
    have h2 : i = 0 ∨ i = 1 := by omega
    have ht := p_twin_bl k a m
    rcases h2 with rfl | rfl <;> exact ⟨.bl a, .bl a, rfl, rfl, ht⟩
  have hr : rngK (.int 2) m = _ := rng_nat (n := 2) (by omega) m
  have h0 := eq_nilL []
  rw [lv__law_twin _ _ rfl, bl__law_twin]
  suffices hh : Run (Lv T (k + 1)) _ (startR 3 [.lst [.bl a, .bl a], .lst [.bl a, .bl a]]) m fun x => x = .rt (.bl true) m by
    rw [hh]
    exact exit_same (Nat.le_refl _) (fun _ => by simp)
  refine run_skip (m1 := m) (by simp [exs, ex, evT, ev_nm, ev_cst, ev_pr, ev_and, ev_or, ev_ite, ev_call, evs_nil, evs_cons, evs_star, ev_comp, ev_dcomp, evw_seq, evw_zip, evw_rngK, startR, bnd_ok, go_ok, seq_nx, seq_rt, exitS, prR, seesR, d_non, d_bl, d_int, d_str, d_tup, d_lst, d_scr, d_dct, d_ty, prS, bltS, tyS, boolR, oRes, oWd, walkS, fin, kit1, kit2, kit3, kit4, lenS, lim, sizeLine_eq, cmpS, bindT, setAll, kt_list_bool]) ?_
  refine run_skip (m1 := m) (by simp [exs, ex, evT, ev_nm, ev_cst, ev_pr, ev_and, ev_or, ev_ite, ev_call, evs_nil, evs_cons, evs_star, ev_comp, ev_dcomp, evw_seq, evw_zip, evw_rngK, startR, bnd_ok, go_ok, seq_nx, seq_rt, exitS, prR, seesR, d_non, d_bl, d_int, d_str, d_tup, d_lst, d_scr, d_dct, d_ty, prS, bltS, tyS, boolR, oRes, oWd, walkS, fin, kit1, kit2, kit3, kit4, lenS, lim, sizeLine_eq, cmpS, bindT, setAll, kt_list_list, kt_list_tuple, eq_bl]) ?_
  refine run_skip (m1 := m) (by simp [exs, ex, evT, ev_nm, ev_cst, ev_pr, ev_and, ev_or, ev_ite, ev_call, evs_nil, evs_cons, evs_star, ev_comp, ev_dcomp, evw_seq, evw_zip, evw_rngK, startR, bnd_ok, go_ok, seq_nx, seq_rt, exitS, prR, seesR, d_non, d_bl, d_int, d_str, d_tup, d_lst, d_scr, d_dct, d_ty, prS, bltS, tyS, boolR, oRes, oWd, walkS, fin, kit1, kit2, kit3, kit4, lenS, lim, sizeLine_eq, cmpS, bindT, setAll, kt_list_str, kt_list_int, eq_bl]) ?_
  refine run_yes (v := .bl true) (m2 := m) (m1 := m) (by simp [exs, ex, evT, ev_nm, ev_cst, ev_pr, ev_and, ev_or, ev_ite, ev_call, evs_nil, evs_cons, evs_star, ev_comp, ev_dcomp, evw_seq, evw_zip, evw_rngK, startR, bnd_ok, go_ok, seq_nx, seq_rt, exitS, prR, seesR, d_non, d_bl, d_int, d_str, d_tup, d_lst, d_scr, d_dct, d_ty, prS, bltS, tyS, boolR, oRes, oWd, walkS, fin, kit1, kit2, kit3, kit4, lenS, lim, sizeLine_eq, cmpS, bindT, setAll, kt_list_list, kt_list_tuple, tysS, anyK]) ?_ rfl
  have he : eqS (.int 2) (.int 2) = some true := by simp [eq_int]
  refine st_nx (ρ' := [some (.lst [.bl a, .bl a]), some (.lst [.bl a, .bl a]), none]) (m' := m) ?_ (st_rt ?_)
  · simp [exs, ex, evT, ev_nm, ev_cst, ev_pr, ev_and, ev_or, ev_ite, ev_call, evs_nil, evs_cons, evs_star, ev_comp, ev_dcomp, evw_seq, evw_zip, evw_rngK, startR, bnd_ok, go_ok, seq_nx, seq_rt, exitS, prR, seesR, d_non, d_bl, d_int, d_str, d_tup, d_lst, d_scr, d_dct, d_ty, prS, bltS, tyS, boolR, oRes, oWd, walkS, fin, kit1, kit2, kit3, kit4, lenS, lim, sizeLine_eq, cmpS, bindT, setAll, he]
  · rw [ex]
    simp [exs, ex, evT, ev_nm, ev_cst, ev_pr, ev_and, ev_or, ev_ite, ev_call, evs_nil, evs_cons, evs_star, ev_comp, ev_dcomp, evw_seq, evw_zip, evw_rngK, startR, bnd_ok, go_ok, seq_nx, seq_rt, exitS, prR, seesR, d_non, d_bl, d_int, d_str, d_tup, d_lst, d_scr, d_dct, d_ty, prS, bltS, tyS, boolR, oRes, oWd, walkS, fin, kit1, kit2, kit3, kit4, lenS, lim, sizeLine_eq, cmpS, bindT, setAll, hr, hw, h0]
end Sn.Lk08
namespace Sn.Lk08
open PySem PySem.Spec PyProof.Rows L2
theorem drf_ins (m : Mu) (C : Str) (fs : List (Str × PV)) : drf (m ++ [.ins C fs]) (.loc m.length) = .ob := by simp [drf]
theorem att_new {m : Mu} {C f : Str} {fs : List (Str × PV)} {v : PV} (h : fs.length < 1000) : attS [C] f v (.loc m.length) (m ++ [.ins C fs]) = some (m ++ [.ins C (putP f v fs)]) := by
  simp [attS, h]
/-- the plan of one name -/
theorem one_plan : DP 3 [(PySem.Str.ofString "a")] [] [] (fun _ => 0) := by
  refine ⟨⟨by omega, fun e he => ?_, by simp [Asc], by simp, fun b hb => by simp at hb, by simp [Asc], by simp, by simp, by simp [Asc], by simp [ends], ⟨by simp, by simp⟩, by simp⟩, by simp, by simp, by simp⟩
  rw [List.mem_singleton.mp he]
  exact ⟨by decide +kernel, by decide +kernel, by decide +kernel, by decide +kernel⟩
theorem no_plan : DP 0 [] [] [] (fun _ => 0) := by
  refine ⟨⟨by omega, fun e he => by simp at he, by simp [Asc], by simp, fun b hb => by simp at hb, by simp [Asc], by simp, by simp, by simp [Asc], by simp [ends], ⟨by simp, by simp⟩, by simp⟩, by simp, by simp, by simp⟩
theorem p_is_valid (k : Nat) {lt : Int} {es : List Str} {bs : List B3} {js : List J4} {rk : Str → Nat} (h : VP lt es bs js rk) (m : Mu) : Lv T (k + 6) (PySem.Str.ofString "Live.is_valid") [eP lt es bs js] m = .ok (.bl true) m := by
  have h1 := p_is_plan k h m
  rw [lv_sm_Live_is_valid _ _ rfl, bl_sm_Live_is_valid]
  simp [exs, ex, evT, ev_nm, ev_cst, ev_pr, ev_and, ev_or, ev_ite, ev_call, evs_nil, evs_cons, evs_star, ev_comp, ev_dcomp, evw_seq, evw_zip, evw_rngK, startR, bnd_ok, go_ok, seq_nx, seq_rt, exitS, prR, seesR, d_non, d_bl, d_int, d_str, d_tup, d_lst, d_scr, d_dct, d_ty, prS, bltS, tyS, boolR, oRes, oWd, walkS, fin, kit1, kit2, kit3, kit4, lenS, lim, sizeLine_eq, cmpS, bindT, setAll, h1]
theorem p_mk_Live (k : Nat) (m : Mu) : ∃ fs, Lv T (k + 7) (PySem.Str.ofString "Live.__init__") [.loc m.length, eP 3 [(PySem.Str.ofString "a")] [] []] (m ++ [.ins (PySem.Str.ofString "Live") []]) = .ok .non (m ++ [.ins (PySem.Str.ofString "Live") fs]) := by
  rw [lv_mk_Live _ _ rfl, bl_mk_Live]
  suffices hh : Run (Lv T (k + 6)) _ (startR 2 [.loc m.length, eP 3 [(PySem.Str.ofString "a")] [] []]) (m ++ [.ins (PySem.Str.ofString "Live") []]) fun x => ∃ fs ρ, x = .nx ρ (m ++ [.ins (PySem.Str.ofString "Live") fs]) by
    obtain ⟨fs, ρ, e⟩ := hh
    refine ⟨fs, ?_⟩
    rw [e]
    exact fin_same (by simp)
  have h1 := p_is_valid k one_plan.vp (m ++ [.ins (PySem.Str.ofString "Live") []])
  refine run_skip (m1 := m ++ [.ins (PySem.Str.ofString "Live") []]) (by simp [exs, ex, evT, ev_nm, ev_cst, ev_pr, ev_and, ev_or, ev_ite, ev_call, evs_nil, evs_cons, evs_star, ev_comp, ev_dcomp, evw_seq, evw_zip, evw_rngK, startR, bnd_ok, go_ok, seq_nx, seq_rt, exitS, prR, seesR, d_non, d_bl, d_int, d_str, d_tup, d_lst, d_scr, d_dct, d_ty, prS, bltS, tyS, boolR, oRes, oWd, walkS, fin, kit1, kit2, kit3, kit4, lenS, lim, sizeLine_eq, cmpS, bindT, setAll, h1]) ?_
  have a1 := fun v => att_new (m := m) (C := PySem.Str.ofString "Live") (f := PySem.Str.ofString "held_plan") (fs := []) (v := v) (by simp)
  refine run_nx [some (.loc m.length), some (eP 3 [(PySem.Str.ofString "a")] [] [])] (m ++ [.ins (PySem.Str.ofString "Live") (putP (PySem.Str.ofString "held_plan") (eP 3 [(PySem.Str.ofString "a")] [] []) [])]) (by rw [ex]; simp [exs, ex, evT, ev_nm, ev_cst, ev_pr, ev_and, ev_or, ev_ite, ev_call, evs_nil, evs_cons, evs_star, ev_comp, ev_dcomp, evw_seq, evw_zip, evw_rngK, startR, bnd_ok, go_ok, seq_nx, seq_rt, exitS, prR, seesR, d_non, d_bl, d_int, d_str, d_tup, d_lst, d_scr, d_dct, d_ty, prS, bltS, tyS, boolR, oRes, oWd, walkS, fin, kit1, kit2, kit3, kit4, lenS, lim, sizeLine_eq, cmpS, bindT, setAll, a1]) ?_
  have a2 := fun v => att_new (m := m) (C := PySem.Str.ofString "Live") (f := PySem.Str.ofString "state") (fs := (putP (PySem.Str.ofString "held_plan") (eP 3 [(PySem.Str.ofString "a")] [] []) [])) (v := v) (by simp [putP])
  refine run_nx [some (.loc m.length), some (eP 3 [(PySem.Str.ofString "a")] [] [])] (m ++ [.ins (PySem.Str.ofString "Live") (putP (PySem.Str.ofString "state") (.tup true [.int 0, .tup true [.non]]) (putP (PySem.Str.ofString "held_plan") (eP 3 [(PySem.Str.ofString "a")] [] []) []))]) ?_ ?_
  · rw [ex]
    simp [exs, ex, evT, ev_nm, ev_cst, ev_pr, ev_and, ev_or, ev_ite, ev_call, evs_nil, evs_cons, evs_star, ev_comp, ev_dcomp, evw_seq, evw_zip, evw_rngK, startR, bnd_ok, go_ok, seq_nx, seq_rt, exitS, prR, seesR, d_non, d_bl, d_int, d_str, d_tup, d_lst, d_scr, d_dct, d_ty, prS, bltS, tyS, boolR, oRes, oWd, walkS, fin, kit1, kit2, kit3, kit4, lenS, lim, sizeLine_eq, cmpS, bindT, setAll, drf_eP, item1, eN, binS, a2]
  have a3 := fun v => att_new (m := m) (C := PySem.Str.ofString "Live") (f := PySem.Str.ofString "calls") (fs := (putP (PySem.Str.ofString "state") (.tup true [.int 0, .tup true [.non]]) (putP (PySem.Str.ofString "held_plan") (eP 3 [(PySem.Str.ofString "a")] [] []) []))) (v := v) (by simp only [putP]; split <;> simp)
  refine run_nx [some (.loc m.length), some (eP 3 [(PySem.Str.ofString "a")] [] [])] (m ++ [.ins (PySem.Str.ofString "Live") (putP (PySem.Str.ofString "calls") (.tup true []) (putP (PySem.Str.ofString "state") (.tup true [.int 0, .tup true [.non]]) (putP (PySem.Str.ofString "held_plan") (eP 3 [(PySem.Str.ofString "a")] [] []) [])))]) ?_ (run_nil ⟨_, _, rfl⟩)
  rw [ex]
  simp [exs, ex, evT, ev_nm, ev_cst, ev_pr, ev_and, ev_or, ev_ite, ev_call, evs_nil, evs_cons, evs_star, ev_comp, ev_dcomp, evw_seq, evw_zip, evw_rngK, startR, bnd_ok, go_ok, seq_nx, seq_rt, exitS, prR, seesR, d_non, d_bl, d_int, d_str, d_tup, d_lst, d_scr, d_dct, d_ty, prS, bltS, tyS, boolR, oRes, oWd, walkS, fin, kit1, kit2, kit3, kit4, lenS, lim, sizeLine_eq, cmpS, bindT, setAll, a3]
theorem p_hist_loc (k : Nat) {lt : Int} {es : List Str} {bs : List B3} {js : List J4} {rk : Str → Nat} (h : VP lt es bs js rk) (m : Mu) (l : Nat) (hl : drf m (.loc l) = .ob) : Lv T (k + 7) (PySem.Str.ofString "is_history") [eP lt es bs js, .loc l] m = .ok (.bl false) m := by
  have h1 := p_check_plan k h m
  have h2 : Lv T (k + 6) (PySem.Str.ofString "is_history_of") [eP lt es bs js, .loc l] m = .ok (.bl false) m := by
    rw [lv_is_history_of _ _ rfl, bl_is_history_of]
    suffices hh : Run (Lv T (k + 5)) _ (startR 10 [eP lt es bs js, .loc l]) m fun x => x = .rt (.bl false) m by
      rw [hh]
      exact exit_same (Nat.le_refl _) (fun _ => by simp)
    exact run_yes (m1 := m) (by simp [exs, ex, evT, ev_nm, ev_cst, ev_pr, ev_and, ev_or, ev_ite, ev_call, evs_nil, evs_cons, evs_star, ev_comp, ev_dcomp, evw_seq, evw_zip, evw_rngK, startR, bnd_ok, go_ok, seq_nx, seq_rt, exitS, prR, seesR, d_non, d_bl, d_int, d_str, d_tup, d_lst, d_scr, d_dct, d_ty, prS, bltS, tyS, boolR, oRes, oWd, walkS, fin, kit1, kit2, kit3, kit4, lenS, lim, sizeLine_eq, cmpS, bindT, setAll, hl]) exs_retc rfl
  rw [lv_is_history _ _ rfl, bl_is_history]
  simp [exs, ex, evT, ev_nm, ev_cst, ev_pr, ev_and, ev_or, ev_ite, ev_call, evs_nil, evs_cons, evs_star, ev_comp, ev_dcomp, evw_seq, evw_zip, evw_rngK, startR, bnd_ok, go_ok, seq_nx, seq_rt, exitS, prR, seesR, d_non, d_bl, d_int, d_str, d_tup, d_lst, d_scr, d_dct, d_ty, prS, bltS, tyS, boolR, oRes, oWd, walkS, fin, kit1, kit2, kit3, kit4, lenS, lim, sizeLine_eq, cmpS, bindT, setAll, h1, h2]
end Sn.Lk08
namespace Sn.Lk08
open PySem PySem.Spec PyProof.Rows L2
variable {pre : Mu}
abbrev wL (ns : List Int) (x1 x2 x3 x4 x5 x6 x7 : Option PV) : Rho := [some (.scr (ns.map .int)), x1, x2, x3, x4, x5, x6, x7]
theorem p_far8 (k : Nat) {N : Nat} {r m : Mu} (h : Sk pre N r m) (hN : N < 1000000) : ∃ (g d : Nat) (m' : Mu), Lv T (k + 1) (PySem.Str.ofString "_law_dip") [.loc pre.length, .int 2] m = .ok (.int (d : Nat)) m' ∧ itemS (.lst [.int 24, .int 60]) (.int (d : Nat)) = some (.int (g : Nat)) ∧ g ≤ 100 ∧ Sk pre (N + 1) r m' := by
  obtain ⟨d, m', e, hd, hs⟩ := sk_dip k h 2 (by omega) (by omega) hN
  have : d = 0 ∨ d = 1 := by omega
  rcases this with rfl | rfl
  · exact ⟨24, 0, m', e, rfl, by omega, hs⟩
  · exact ⟨60, 1, m', e, rfl, by omega, hs⟩
theorem mt_gd {es : List Str} {q : PV} (h : Mt es q) (he : es.length ≤ 100) (now : Int) : Gd (.tup true [.int now, q]) := by
  obtain ⟨g, xs, rfl, hl, hv⟩ := h
  exact gd_pair rfl (od_tup (by omega) fun x hx => (hv x hx).kn)
def Pt (pre : Mu) (ns : List Int) (pl : PV) (i : Nat) (ρ : Rho) (m : Mu) : Prop := ∃ (N : Nat) (x1 x4 x5 x6 x7 : Option PV), ρ = wL ns x1 (some (.loc pre.length)) (some pl) x4 x5 x6 x7 ∧ Sk pre N [] m ∧ N ≤ 801 + 500 * i
theorem turn_step (k : Nat) {lt : Int} {es : List Str} {bs : List B3} {js : List J4} {rk : Str → Nat} {N : Nat} {m : Mu} {ns : List Int} {x1 x5 x6 x7 : Option PV} (j : Nat) (h : Sk pre N [] m) (hd : DP lt es bs js rk) (hN : N < 500000) :
    Run (Lv T (k + 8)) (.cons (.set (.nm 5) (.call (PySem.Str.ofString "_law_walked") (.cons false (.nm 2) (.cons false (.nm 3) (.cons false (.pr .item (.cons false (.pr .lst (.cons false (.cst (.int 24)) (.cons false (.cst (.int 60)) .nil))) (.cons false (.call (PySem.Str.ofString "_law_dip") (.cons false (.nm 2) (.cons false (.cst (.int 2)) .nil))) .nil))) .nil))))) (.cons (.ite (.pr (.cmp .Gt) (.cons false (.nm 4) (.cons false (.cst (.int 0)) .nil))) (.cons (.set (.nm 5) (.call (PySem.Str.ofString "_law_bent_part") (.cons false (.nm 2) (.cons false (.nm 5) .nil)))) .nil) .nil) (.cons (.set (.nm 6) (.call (PySem.Str.ofString "_law_is_past") (.cons false (.nm 3) (.cons false (.nm 5) .nil)))) (.cons (.ite (.pr .not_ (.cons false (.call (PySem.Str.ofString "_law_twin") (.cons false (.pr .lst (.cons false (.call (PySem.Str.ofString "is_history") (.cons false (.nm 3) (.cons false (.nm 5) .nil))) (.cons false (.callk (PySem.Str.ofString "is_history") .nil (.cons false (.nm 5) (.cons false (.nm 3) .nil)) 0 2 [1, 0]) .nil))) (.cons false (.pr .lst (.cons false (.nm 6) (.cons false (.nm 6) .nil))) .nil))) .nil)) (.cons (.ret (.cst (.bl false))) .nil) .nil) .nil))))
      (wL ns x1 (some (.loc pre.length)) (some (eP lt es bs js)) (some (.int (j : Nat))) x5 x6 x7) m fun y => ∃ (ρ2 : Rho) (m2 : Mu), y = .nx ρ2 m2 ∧ ∃ (N' : Nat) (x1 x4 x5 x6 x7 : Option PV), ρ2 = wL ns x1 (some (.loc pre.length)) (some (eP lt es bs js)) x4 x5 x6 x7 ∧ Sk pre N' [] m2 ∧ N' ≤ N + 500 := by
  have hel := hd.el
  obtain ⟨g, d, m1, e1, eg, hg, h1⟩ := p_far8 (k + 7) h (by omega)
  obtain ⟨now, q, m2, e2, h2, hq⟩ := p_law_walked (k + 5) h1 hd g hg (by omega)
  refine run_nx (wL ns x1 (some (.loc pre.length)) (some (eP lt es bs js)) (some (.int (j : Nat))) (some (.tup true [.int now, q])) x6 x7) m2 (by simp [exs, ex, evT, ev_nm, ev_cst, ev_pr, ev_and, ev_or, ev_ite, ev_call, evs_nil, evs_cons, evs_star, ev_comp, ev_dcomp, evw_seq, evw_zip, evw_rngK, startR, bnd_ok, go_ok, seq_nx, seq_rt, exitS, prR, seesR, d_non, d_bl, d_int, d_str, d_tup, d_lst, d_scr, d_dct, d_ty, prS, bltS, tyS, boolR, oRes, oWd, walkS, fin, kit1, kit2, kit3, kit4, lenS, lim, sizeLine_eq, cmpS, bindT, setAll, e1, eg, e2]) ?_
  refine run_or (fun ρ' m' => ∃ th, ρ' = wL ns x1 (some (.loc pre.length)) (some (eP lt es bs js)) (some (.int (j : Nat))) (some th) x6 x7 ∧ Sk pre (N + 1 + 400 + 6) [] m' ∧ Gd th) ?_ ?_
  · by_cases hj : 0 < j
    · refine .inr ⟨m2, by simp [exs, ex, evT, ev_nm, ev_cst, ev_pr, ev_and, ev_or, ev_ite, ev_call, evs_nil, evs_cons, evs_star, ev_comp, ev_dcomp, evw_seq, evw_zip, evw_rngK, startR, bnd_ok, go_ok, seq_nx, seq_rt, exitS, prR, seesR, d_non, d_bl, d_int, d_str, d_tup, d_lst, d_scr, d_dct, d_ty, prS, bltS, tyS, boolR, oRes, oWd, walkS, fin, kit1, kit2, kit3, kit4, lenS, lim, sizeLine_eq, cmpS, bindT, setAll, ltS, hj], ?_⟩
      obtain ⟨th, m3, e3, h3, hgd⟩ := p_law_bent_part (k + 6) h2 now hq (by omega) (by omega)
      exact run_nx (wL ns x1 (some (.loc pre.length)) (some (eP lt es bs js)) (some (.int (j : Nat))) (some th) x6 x7) m3 (by simp [exs, ex, evT, ev_nm, ev_cst, ev_pr, ev_and, ev_or, ev_ite, ev_call, evs_nil, evs_cons, evs_star, ev_comp, ev_dcomp, evw_seq, evw_zip, evw_rngK, startR, bnd_ok, go_ok, seq_nx, seq_rt, exitS, prR, seesR, d_non, d_bl, d_int, d_str, d_tup, d_lst, d_scr, d_dct, d_ty, prS, bltS, tyS, boolR, oRes, oWd, walkS, fin, kit1, kit2, kit3, kit4, lenS, lim, sizeLine_eq, cmpS, bindT, setAll, e3]) (run_nil ⟨_, _, rfl, _, rfl, h3, hgd⟩)
    · exact .inl ⟨m2, by simp [exs, ex, evT, ev_nm, ev_cst, ev_pr, ev_and, ev_or, ev_ite, ev_call, evs_nil, evs_cons, evs_star, ev_comp, ev_dcomp, evw_seq, evw_zip, evw_rngK, startR, bnd_ok, go_ok, seq_nx, seq_rt, exitS, prR, seesR, d_non, d_bl, d_int, d_str, d_tup, d_lst, d_scr, d_dct, d_ty, prS, bltS, tyS, boolR, oRes, oWd, walkS, fin, kit1, kit2, kit3, kit4, lenS, lim, sizeLine_eq, cmpS, bindT, setAll, ltS, hj], run_nil ⟨_, _, rfl, _, rfl, h2.mono (by omega), mt_gd hq (by omega) now⟩⟩
  · rintro ρ' m' ⟨th, rfl, h3, hgd⟩
    have p1 := p_law_is_past (k + 6) th m' hd hgd
    have p2 := p_is_history (k + 1) th m' hd hgd
    have p3 := p_twin_two (k + 6) (pastB es js th) m'
    refine run_nx (wL ns x1 (some (.loc pre.length)) (some (eP lt es bs js)) (some (.int (j : Nat))) (some th) (some (.bl (pastB es js th))) x7) m' (by simp [exs, ex, evT, ev_nm, ev_cst, ev_pr, ev_and, ev_or, ev_ite, ev_call, evs_nil, evs_cons, evs_star, ev_comp, ev_dcomp, evw_seq, evw_zip, evw_rngK, startR, bnd_ok, go_ok, seq_nx, seq_rt, exitS, prR, seesR, d_non, d_bl, d_int, d_str, d_tup, d_lst, d_scr, d_dct, d_ty, prS, bltS, tyS, boolR, oRes, oWd, walkS, fin, kit1, kit2, kit3, kit4, lenS, lim, sizeLine_eq, cmpS, bindT, setAll, p1]) ?_
    refine run_skip (m1 := m') (by simp [exs, ex, evT, ev_nm, ev_cst, ev_pr, ev_and, ev_or, ev_ite, ev_call, evs_nil, evs_cons, evs_star, ev_comp, ev_dcomp, evw_seq, evw_zip, evw_rngK, startR, bnd_ok, go_ok, seq_nx, seq_rt, exitS, prR, seesR, d_non, d_bl, d_int, d_str, d_tup, d_lst, d_scr, d_dct, d_ty, prS, bltS, tyS, boolR, oRes, oWd, walkS, fin, kit1, kit2, kit3, kit4, lenS, lim, sizeLine_eq, cmpS, bindT, setAll, ev_callk, permW, permV, p2, p3]) (run_nil ⟨_, _, rfl, _, _, _, _, _, _, rfl, h3, by omega⟩)
theorem plain_law (k : Nat) (ns : List Int) (hz : ns.length ≤ 63) : ∃ m', Lv T (k + 9) (PySem.Str.ofString "law") [.scr (ns.map .int)] [] = .ok (.bl true) m' := by
  rw [lv_law _ _ rfl, bl_law]
  suffices hh : Run (Lv T (k + 8)) _ (startR 8 [.scr (ns.map .int)]) [] fun x => ∃ m', x = .rt (.bl true) m' by
    obtain ⟨m', e⟩ := hh
    refine ⟨if m'.length ≤ 0 then m' else [], ?_⟩
    rw [e]
    simp only [exitS, Bool.false_eq_true, if_false, fin, List.length_nil]
    split <;> simp [givS, lb]
  obtain ⟨n, hn, hnl⟩ : ∃ n : Nat, (if (1 : Int) < (if (12 : Int) < ((ns.length : Nat) : Int) then 12 else ((ns.length : Nat) : Int)) then (if (12 : Int) < ((ns.length : Nat) : Int) then 12 else ((ns.length : Nat) : Int)) else 1) = (n : Int) ∧ n ≤ 12 ∧ ∀ i, i < n → i < ns.length ∨ ns = [] ∧ i = 0 := by
    by_cases h0 : ns.length = 0
    · have : ns = [] := List.length_eq_zero_iff.mp h0
      subst this
      exact ⟨1, by simp, by omega, fun i hi => .inr ⟨rfl, by omega⟩⟩
    · refine ⟨min ns.length 12, ?_, by omega, fun i hi => .inl (by omega)⟩
      split <;> split at * <;> omega
  refine run_for (m1 := []) (xs := (List.range n).map fun k => PV.int (k : Nat)) (ws := []) (fun _ ρ m => Cl m ∧ ∃ x1 x2 x3 x4 x5 x6 x7, ρ = wL ns x1 x2 x3 x4 x5 x6 x7) ?_ (fun _ _ _ _ => keeps_nil _ _) ⟨fun o ho => by simp at ho, _, _, _, _, _, _, _, rfl⟩ ?_ ?_
  · have hrng := rng_nat (n := n) (by omega) []
    simp [exs, ex, evT, ev_nm, ev_cst, ev_pr, ev_and, ev_or, ev_ite, ev_call, evs_nil, evs_cons, evs_star, ev_comp, ev_dcomp, evw_seq, evw_zip, evw_rngK, startR, bnd_ok, go_ok, seq_nx, seq_rt, exitS, prR, seesR, d_non, d_bl, d_int, d_str, d_tup, d_lst, d_scr, d_dct, d_ty, prS, bltS, tyS, boolR, oRes, oWd, walkS, fin, kit1, kit2, kit3, kit4, lenS, lim, sizeLine_eq, cmpS, bindT, setAll, minS, maxS, hn, hrng]
  · rintro i x hx ρ pre ⟨hpre, x1, x2, x3, x4, x5, x6, x7, rfl⟩
    have hin : i < n := by
      have := (List.getElem?_eq_some_iff.mp hx).1
      simpa using this
    have hxe : x = .int (i : Nat) := by
      rw [List.getElem?_map, List.getElem?_range hin] at hx
      simpa using hx.symm
    subst hxe
    refine ⟨_, rfl, ?_⟩
    obtain ⟨m1, e1, h1⟩ : ∃ m1, Lv T (k + 8) (PySem.Str.ofString "_law_sack") [.scr (ns.map .int), .int (i : Nat)] pre = .ok (.loc pre.length) m1 ∧ Sk pre 0 [] m1 := by
      rcases hnl.2 i hin with h | ⟨rfl, rfl⟩
      · obtain ⟨a, b, e, h1, h2, h3⟩ := p_sack (k + 7) pre hpre ns i h hz
        exact ⟨_, e, a, b, 0, rfl, h1, h2, h3, by omega, by omega⟩
      · exact ⟨_, p_sack0 (k + 7) pre hpre, 0, 61, 0, rfl, by omega, by omega, by omega, by omega, by omega⟩
    refine run_nx (wL ns (some (.int (i : Nat))) (some (.loc pre.length)) x3 x4 x5 x6 x7) m1 ?_ ?_
    · simp [exs, ex, evT, ev_nm, ev_cst, ev_pr, ev_and, ev_or, ev_ite, ev_call, evs_nil, evs_cons, evs_star, ev_comp, ev_dcomp, evw_seq, evw_zip, evw_rngK, startR, bnd_ok, go_ok, seq_nx, seq_rt, exitS, prR, seesR, d_non, d_bl, d_int, d_str, d_tup, d_lst, d_scr, d_dct, d_ty, prS, bltS, tyS, boolR, oRes, oWd, walkS, fin, kit1, kit2, kit3, kit4, lenS, lim, sizeLine_eq, cmpS, bindT, setAll, e1]
    have hcl : Cl (pre ++ []) := by simpa using hpre
    obtain ⟨d, m2, e2, hd2, h2⟩ := sk_dip (k + 7) h1 2 (by omega) (by omega) (by omega)
    obtain ⟨lt, es, bs, js, rk, m3, e3, h3, hd⟩ : ∃ (lt : Int) (es : List Str) (bs : List B3) (js : List J4) (rk : Str → Nat) (m3 : Mu), ev (Lv T (k + 8)) (.ite (.pr (.cmp .Eq) (.cons false (.call (PySem.Str.ofString "_law_dip") (.cons false (.nm 2) (.cons false (.cst (.int 2)) .nil))) (.cons false (.cst (.int 0)) .nil))) (.call (PySem.Str.ofString "_law_great") (.cons false (.nm 2) (.cons false (.cst (.int 7)) (.cons false (.cst (.int 20)) .nil)))) (.call (PySem.Str.ofString "_law_little") (.cons false (.nm 2) (.cons false (.cst (.int 4)) (.cons false (.cst (.int 5)) .nil))))) (wL ns (some (.int (i : Nat))) (some (.loc pre.length)) x3 x4 x5 x6 x7) m1 = .ok (eP lt es bs js) m3 ∧ Sk pre 801 [] m3 ∧ DP lt es bs js rk := by
      by_cases h0 : d = 0
      · obtain ⟨lt, es, bs, js, rk, m3, e3, h3, hd⟩ := p_law_great (k + 4) h2 hcl (by omega)
        exact ⟨lt, es, bs, js, rk, m3, by simp [exs, ex, evT, ev_nm, ev_cst, ev_pr, ev_and, ev_or, ev_ite, ev_call, evs_nil, evs_cons, evs_star, ev_comp, ev_dcomp, evw_seq, evw_zip, evw_rngK, startR, bnd_ok, go_ok, seq_nx, seq_rt, exitS, prR, seesR, d_non, d_bl, d_int, d_str, d_tup, d_lst, d_scr, d_dct, d_ty, prS, bltS, tyS, boolR, oRes, oWd, walkS, fin, kit1, kit2, kit3, kit4, lenS, lim, sizeLine_eq, cmpS, bindT, setAll, e2, eq_int, h0, e3], h3.mono (by omega), hd⟩
      · obtain ⟨lt, es, bs, js, rk, m3, e3, h3, hd⟩ := p_law_little (k + 5) h2 hcl (by omega)
        exact ⟨lt, es, bs, js, rk, m3, by simp [exs, ex, evT, ev_nm, ev_cst, ev_pr, ev_and, ev_or, ev_ite, ev_call, evs_nil, evs_cons, evs_star, ev_comp, ev_dcomp, evw_seq, evw_zip, evw_rngK, startR, bnd_ok, go_ok, seq_nx, seq_rt, exitS, prR, seesR, d_non, d_bl, d_int, d_str, d_tup, d_lst, d_scr, d_dct, d_ty, prS, bltS, tyS, boolR, oRes, oWd, walkS, fin, kit1, kit2, kit3, kit4, lenS, lim, sizeLine_eq, cmpS, bindT, setAll, e2, eq_int, h0, e3], h3.mono (by omega), hd⟩
    refine run_nx (wL ns (some (.int (i : Nat))) (some (.loc pre.length)) (some (eP lt es bs js)) x4 x5 x6 x7) m3 ?_ ?_
    · rw [ex, e3]
      rfl
    refine run_for (m1 := m3) (xs := (List.range 6).map fun k => PV.int (k : Nat)) (ws := []) (Pt pre ns (eP lt es bs js)) ?_ (fun _ _ _ _ => keeps_nil _ _) ⟨801, _, _, _, _, _, rfl, h3, by omega⟩ ?_ ?_
    · have hrng : rngK (.int 6) m3 = _ := rng_nat (n := 6) (by omega) m3
      simp only [evw_rngK, ev_cst, bnd_ok]
      exact hrng
    · rintro j x hx ρ m ⟨N, y1, y4, y5, y6, y7, rfl, hs, hN⟩
      have hj6 : j < 6 := by
        have := (List.getElem?_eq_some_iff.mp hx).1
        simpa using this
      have hxe : x = .int (j : Nat) := by
        rw [List.getElem?_map, List.getElem?_range hj6] at hx
        simpa using hx.symm
      subst hxe
      refine ⟨_, rfl, ?_⟩
      obtain ⟨ρ2, m2, e, N', z1, z4, z5, z6, z7, rfl, hs2, hN2⟩ := turn_step k (ns := ns) (x1 := y1) (x5 := y5) (x6 := y6) (x7 := y7) j hs hd (by omega)
      exact ⟨_, _, e, N', _, _, _, _, _, rfl, hs2, by omega⟩
    · rintro ρ' m' ⟨N, y1, y4, y5, y6, y7, rfl, hs, hN⟩
      exact run_nil ⟨_, _, rfl, sk_cl hs hcl, _, _, _, _, _, _, _, rfl⟩
  · rintro ρ' m' ⟨hcl, x1, x2, x3, x4, x5, x6, x7, rfl⟩
    refine run_nx (wL ns x1 x2 x3 x4 x5 x6 (some (eP 3 [(PySem.Str.ofString "a")] [] []))) m' (by simp [exs, ex, evT, ev_nm, ev_cst, ev_pr, ev_and, ev_or, ev_ite, ev_call, evs_nil, evs_cons, evs_star, ev_comp, ev_dcomp, evw_seq, evw_zip, evw_rngK, startR, bnd_ok, go_ok, seq_nx, seq_rt, exitS, prR, seesR, d_non, d_bl, d_int, d_str, d_tup, d_lst, d_scr, d_dct, d_ty, prS, bltS, tyS, boolR, oRes, oWd, walkS, fin, kit1, kit2, kit3, kit4, lenS, lim, sizeLine_eq, cmpS, bindT, setAll, eP, eN]) ?_
    obtain ⟨fs, e1⟩ := p_mk_Live (k + 1) m'
    have e2 := p_hist_loc (k + 1) one_plan.vp (m' ++ [.ins (PySem.Str.ofString "Live") fs]) m'.length (drf_ins m' _ fs)
    have hmk : ev (Lv T (k + 8)) (.mk (PySem.Str.ofString "Live") (.cons false (.nm 7) .nil)) (wL ns x1 x2 x3 x4 x5 x6 (some (eP 3 [(PySem.Str.ofString "a")] [] []))) m' = .ok (.loc m'.length) (m' ++ [.ins (PySem.Str.ofString "Live") fs]) := by
      have hi : initOf (PySem.Str.ofString "Live") = PySem.Str.ofString "Live.__init__" := by decide +kernel
      rw [ev]
      simp only [evs_cons, evs_nil, ev_nm, bnd_ok, List.getElem?_cons_succ, List.getElem?_cons_zero, hi, e1]
    refine run_skip (m1 := m' ++ [.ins (PySem.Str.ofString "Live") fs]) ?_ ?_
    · simp [exs, ex, evT, ev_nm, ev_cst, ev_pr, ev_and, ev_or, ev_ite, ev_call, evs_nil, evs_cons, evs_star, ev_comp, ev_dcomp, evw_seq, evw_zip, evw_rngK, startR, bnd_ok, go_ok, seq_nx, seq_rt, exitS, prR, seesR, d_non, d_bl, d_int, d_str, d_tup, d_lst, d_scr, d_dct, d_ty, prS, bltS, tyS, boolR, oRes, oWd, walkS, fin, kit1, kit2, kit3, kit4, lenS, lim, sizeLine_eq, cmpS, bindT, setAll, hmk, e2, isS]
    have hg : Gd (.tup true [.int 7, .tup true []]) := gd_pair rfl (od_tup (by simp) (by simp))
    have e3 := p_is_history (k + 1) (.tup true [.int 7, .tup true []]) (m' ++ [.ins (PySem.Str.ofString "Live") fs]) no_plan hg
    have hb : pastB [] [] (.tup true [.int 7, .tup true []]) = true := by simp [pastB]
    rw [hb] at e3
    simp only [eP, eN, List.map_nil] at e3
    exact run_ret (p := .bl true) (m' := m' ++ [.ins (PySem.Str.ofString "Live") fs]) (by simp [exs, ex, evT, ev_nm, ev_cst, ev_pr, ev_and, ev_or, ev_ite, ev_call, evs_nil, evs_cons, evs_star, ev_comp, ev_dcomp, evw_seq, evw_zip, evw_rngK, startR, bnd_ok, go_ok, seq_nx, seq_rt, exitS, prR, seesR, d_non, d_bl, d_int, d_str, d_tup, d_lst, d_scr, d_dct, d_ty, prS, bltS, tyS, boolR, oRes, oWd, walkS, fin, kit1, kit2, kit3, kit4, lenS, lim, sizeLine_eq, cmpS, bindT, setAll, e3, isS]) ⟨_, rfl⟩
end Sn.Lk08
namespace Sn.Lk08
open PySem PySem.Spec PyProof.Rows L2
def Plain (k : Nat) : Prop := ∀ ns : List Int, ns.length ≤ 63 → ∃ m', Lv T k (PySem.Str.ofString "law") [.scr (ns.map .int)] [] = .ok (.bl true) m'
theorem fns_eq : fns = (tab.filter fun e => !hasDot e.1).map fun e => (e.1, e.2.n) := by decide +kernel
theorem all_mk {l : PySem.W.OpenLaw} {w : World} {K : PySem.W.Frag} {h : Heap} {mg : Str → Option Value} {fa : Addr} {k : Nat} (pl : Plain (k + 1)) (X : K.In h) (G : h.Ns mainGlobals mg) (hfa : mg (PySem.Str.ofString "law") = some (.ref fa)) (d_is_integer : DA K (PySem.Str.ofString "is_integer") 11) (d_is_at_least : DA K (PySem.Str.ofString "is_at_least") 12) (d_is_name : DA K (PySem.Str.ofString "is_name") 13) (d_is_ascending : DA K (PySem.Str.ofString "is_ascending") 14) (d_is_point : DA K (PySem.Str.ofString "is_point") 15) (d_is_bound : DA K (PySem.Str.ofString "is_bound") 16) (d_is_task : DA K (PySem.Str.ofString "is_task") 17) (d_are_events : DA K (PySem.Str.ofString "are_events") 18) (d_are_bounds : DA K (PySem.Str.ofString "are_bounds") 19) (d_begins_of : DA K (PySem.Str.ofString "begins_of") 20) (d_is_rooted : DA K (PySem.Str.ofString "is_rooted") 21) (d_are_tasks : DA K (PySem.Str.ofString "are_tasks") 22) (d_is_plan : DA K (PySem.Str.ofString "is_plan") 23) (d_check_plan : DA K (PySem.Str.ofString "check_plan") 24) (d_moment_of : DA K (PySem.Str.ofString "moment_of") 26) (d_are_moments : DA K (PySem.Str.ofString "are_moments") 40) (d_is_history_of : DA K (PySem.Str.ofString "is_history_of") 41) (d_is_history : DA K (PySem.Str.ofString "is_history") 47) (d__law_sack : DA K (PySem.Str.ofString "_law_sack") 67) (d__law_dip : DA K (PySem.Str.ofString "_law_dip") 68) (d__law_twin : DA K (PySem.Str.ofString "_law_twin") 69) (d__law_jobs : DA K (PySem.Str.ofString "_law_jobs") 70) (d__law_worth : DA K (PySem.Str.ofString "_law_worth") 71) (d__law_little : DA K (PySem.Str.ofString "_law_little") 72) (d__law_own : DA K (PySem.Str.ofString "_law_own") 73) (d__law_put : DA K (PySem.Str.ofString "_law_put") 74) (d__law_starts : DA K (PySem.Str.ofString "_law_starts") 75) (d__law_stops : DA K (PySem.Str.ofString "_law_stops") 76) (d__law_nothing : DA K (PySem.Str.ofString "_law_nothing") 77) (d__law_walked : DA K (PySem.Str.ofString "_law_walked") 78) (d__law_is_whole : DA K (PySem.Str.ofString "_law_is_whole") 79) (d__law_is_past : DA K (PySem.Str.ofString "_law_is_past") 80) (d__law_bent_part : DA K (PySem.Str.ofString "_law_bent_part") 81) (d__law_titles : DA K (PySem.Str.ofString "_law_titles") 82) (d__law_few_limits : DA K (PySem.Str.ofString "_law_few_limits") 83) (d__law_long_jobs : DA K (PySem.Str.ofString "_law_long_jobs") 84) (d__law_great : DA K (PySem.Str.ofString "_law_great") 85) (d_law : DA K (PySem.Str.ofString "law") 86) (d_mk_Live : MA K (PySem.Str.ofString "Live") (PySem.Str.ofString "Live.__init__") (methS 65 1)) (d_sm_Live_is_valid : SA K (PySem.Str.ofString "Live") (PySem.Str.ofString "is_valid") (PySem.Str.ofString "Live.is_valid") (methS 65 2)) (z_range : PySem.W.nsIn K mainGlobals (PySem.Str.ofString "range") = some none) (z_zip : PySem.W.nsIn K mainGlobals (PySem.Str.ofString "zip") = some none) (z_enumerate : PySem.W.nsIn K mainGlobals (PySem.Str.ofString "enumerate") = some none) (z_isinstance : PySem.W.nsIn K mainGlobals (PySem.Str.ofString "isinstance") = some none) (z_len : PySem.W.nsIn K mainGlobals (PySem.Str.ofString "len") = some none) (z_abs : PySem.W.nsIn K mainGlobals (PySem.Str.ofString "abs") = some none) (z_max : PySem.W.nsIn K mainGlobals (PySem.Str.ofString "max") = some none) (z_min : PySem.W.nsIn K mainGlobals (PySem.Str.ofString "min") = some none) (z_int : PySem.W.nsIn K mainGlobals (PySem.Str.ofString "int") = some none) (z_str : PySem.W.nsIn K mainGlobals (PySem.Str.ofString "str") = some none) (z_tuple : PySem.W.nsIn K mainGlobals (PySem.Str.ofString "tuple") = some none) (z_list : PySem.W.nsIn K mainGlobals (PySem.Str.ofString "list") = some none) (z_sorted : PySem.W.nsIn K mainGlobals (PySem.Str.ofString "sorted") = some none) (z_all : PySem.W.nsIn K mainGlobals (PySem.Str.ofString "all") = some none) (z_any : PySem.W.nsIn K mainGlobals (PySem.Str.ofString "any") = some none) (z_sum : PySem.W.nsIn K mainGlobals (PySem.Str.ofString "sum") = some none) (z_bool : PySem.W.nsIn K mainGlobals (PySem.Str.ofString "bool") = some none) (c_GO : ∃ u, PySem.W.nsIn K mainGlobals (PySem.Str.ofString "GO") = some (some u) ∧ RelV (.str (PySem.Str.ofString "go")) u) (c_LETTERS : ∃ u, PySem.W.nsIn K mainGlobals (PySem.Str.ofString "LETTERS") = some (some u) ∧ RelV (.str (PySem.Str.ofString "abcdefghijklmnopqrstuvwxyz")) u) (c_LONGEST_NAME : ∃ u, PySem.W.nsIn K mainGlobals (PySem.Str.ofString "LONGEST_NAME") = some (some u) ∧ RelV (.int 8) u) (c_PLAIN : ∃ u, PySem.W.nsIn K mainGlobals (PySem.Str.ofString "PLAIN") = some (some u) ∧ RelV (.str (PySem.Str.ofString "")) u) (c_NONE : ∃ u, PySem.W.nsIn K mainGlobals (PySem.Str.ofString "NONE") = some (some u) ∧ RelV (.str (PySem.Str.ofString "none")) u) (c_AT : ∃ u, PySem.W.nsIn K mainGlobals (PySem.Str.ofString "AT") = some (some u) ∧ RelV (.str (PySem.Str.ofString "at ")) u) (c_DIGITS : ∃ u, PySem.W.nsIn K mainGlobals (PySem.Str.ofString "DIGITS") = some (some u) ∧ RelV (.str (PySem.Str.ofString "0123456789")) u) (c_SAFE : ∃ u, PySem.W.nsIn K mainGlobals (PySem.Str.ofString "SAFE") = some (some u) ∧ RelV (.str (PySem.Str.ofString "safe")) u) (c_LOST : ∃ u, PySem.W.nsIn K mainGlobals (PySem.Str.ofString "LOST") = some (some u) ∧ RelV (.str (PySem.Str.ofString "lost")) u) (c_START : ∃ u, PySem.W.nsIn K mainGlobals (PySem.Str.ofString "START") = some (some u) ∧ RelV (.str (PySem.Str.ofString "start")) u) (n_Live_held_plan : ∃ Ca, PySem.W.nsIn K mainGlobals (PySem.Str.ofString "Live") = some (some (.ref Ca)) ∧ NoAttr K Ca (PySem.Str.ofString "held_plan")) (n_Live_state : ∃ Ca, PySem.W.nsIn K mainGlobals (PySem.Str.ofString "Live") = some (some (.ref Ca)) ∧ NoAttr K Ca (PySem.Str.ofString "state")) (n_Live_calls : ∃ Ca, PySem.W.nsIn K mainGlobals (PySem.Str.ofString "Live") = some (some (.ref Ca)) ∧ NoAttr K Ca (PySem.Str.ofString "calls")) : ∃ fd : FuncData, (∀ (s : Shared) (v : Value), BindsTo s fd ⟨[v], []⟩ [(PySem.Str.ofString "script", v)]) ∧ ∀ base : Heap, K.In base → base.Ns mainGlobals mg → FnOk l.prog w K mg base (L2.CX l.prog w) (2 * (k + 1)) fa fd [PySem.Str.ofString "script"] (spLaw K 63) := by
  have L : Lib K mg T con kws ot := lib_of (fns := fns) (tab := tab) (gl X G z_range z_zip z_enumerate z_isinstance z_len z_abs z_max z_min z_int z_str z_tuple z_list z_sorted z_all z_any z_sum z_bool c_GO c_LETTERS c_LONGEST_NAME c_PLAIN c_NONE c_AT c_DIGITS c_SAFE c_LOST c_START) fns_eq (by unfold kws; simp only [List.forall_mem_cons, List.not_mem_nil, false_implies, implies_true, and_true]; exact ⟨by decide +kernel, D_is_history, rfl⟩) (by unfold ot; simp only [List.forall_mem_cons, List.not_mem_nil, false_implies, implies_true, and_true]; exact ⟨D_mk_Live, by rfl⟩) (by unfold ot; simp only [List.forall_mem_cons, List.not_mem_nil, false_implies, implies_true, and_true]; exact ⟨D_sm_Live_is_valid, by rfl⟩) (by unfold ot; simp only [List.forall_mem_cons, List.not_mem_nil, false_implies, implies_true, and_true]; exact ⟨fun Ca h => (let ⟨Cb, hb, hn⟩ := n_Live_held_plan; by rw [hb] at h; cases h; exact hn), fun Ca h => (let ⟨Cb, hb, hn⟩ := n_Live_state; by rw [hb] at h; cases h; exact hn), fun Ca h => (let ⟨Cb, hb, hn⟩ := n_Live_calls; by rw [hb] at h; cases h; exact hn)⟩) (by
    unfold tab
    simp only [List.forall_mem_cons, List.not_mem_nil, false_implies, implies_true, and_true]
    exact ⟨ok_is_integer X G d_is_integer, ok_is_at_least X G d_is_at_least, ok_is_name X G d_is_name, ok_is_ascending X G d_is_ascending, ok_is_point X G d_is_point, ok_is_bound X G d_is_bound, ok_is_task X G d_is_task, ok_are_events X G d_are_events, ok_are_bounds X G d_are_bounds, ok_begins_of X G d_begins_of, ok_is_rooted X G d_is_rooted, ok_are_tasks X G d_are_tasks, ok_is_plan X G d_is_plan, ok_check_plan X G d_check_plan, ok_moment_of X G d_moment_of, ok_are_moments X G d_are_moments, ok_is_history_of X G d_is_history_of, ok_is_history X G d_is_history, ok__law_sack X G d__law_sack, ok__law_dip X G d__law_dip, ok__law_twin X G d__law_twin, ok__law_jobs X G d__law_jobs, ok__law_worth X G d__law_worth, ok__law_little X G d__law_little, ok__law_own X G d__law_own, ok__law_put X G d__law_put, ok__law_starts X G d__law_starts, ok__law_stops X G d__law_stops, ok__law_nothing X G d__law_nothing, ok__law_walked X G d__law_walked, ok__law_is_whole X G d__law_is_whole, ok__law_is_past X G d__law_is_past, ok__law_bent_part X G d__law_bent_part, ok__law_titles X G d__law_titles, ok__law_few_limits X G d__law_few_limits, ok__law_long_jobs X G d__law_long_jobs, ok__law_great X G d__law_great, ok_law X G d_law, ok_mk_Live X G d_mk_Live, ok_sm_Live_is_valid X G d_sm_Live_is_valid⟩)
  obtain ⟨fa', fd, F, a⟩ := d_law
  have e := hfa.symm.trans (PySem.W.mg_of X G a)
  cases e
  have hd := def_law X G F a
  refine ⟨fd, fun s v => ?_, fun base _ _ => fnOk_imp (lib_fn (T := T) L rfl hd rfl rfl ⟨rfl, rfl, rfl⟩ fun g n hg => lookup_tab (tab := tab) (by rw [← fns_eq]; exact hg)) (law_sp pl)⟩
  obtain ⟨oc, od, kV, doc, pm, an, cdv, ct, osl, rfl, _, _⟩ := F.ex
  exact .of_eq rfl
theorem plain : Plain 30 := plain_law 21
theorem mk_at {K : PySem.W.Frag} {C q : Str} {st : Stmt} {Ca fa : Addr} {oc : Value} {od an : Option Addr} {osl : Array (Option Value)} {kV doc pm cdv ct : Value}
    (a : PySem.W.nsIn K mainGlobals C = some (some (.ref Ca))) (l : K.lookup fa = some { cls := oc, dict := od, data := .func (PySem.W.fnOf (PySem.Str.ofString "__init__") q (defArgs st) (defBody st) (defScope st) .none kV doc pm an cdv ct), slots := osl })
    (c : PySem.W.codeIn K cdv q = true) (k : PySem.W.keepIn K (.ref fa) = true) (fi : PySem.W.findIn K (.ref Ca) "__init__" = some (some (.ref fa))) (i : PySem.W.isFn K (.ref fa) = true) (mk : PySem.W.makesIn K Ca = true) (kc : PySem.W.keepIn K (.ref Ca) = true)
    (pg : PySem.W.plainGet K Ca Str.empty = true) (hd : PySem.W.hasDictIn K Ca = true) (po : PySem.W.plainOver K Ca = true) (sa : PySem.W.findIn K (.ref Ca) "__setattr__" = some (some (.builtin "object.__setattr__")))
    (ha : PySem.W.findIn K (.ref Ca) "__class__" = some (some (.builtin "object.__class__"))) (hn : PySem.W.specialIn K (.builtin "object.__class__") "__get__" = some (some (.builtin "getset_descriptor.__get__"))) (htk : PySem.W.takesIn K (.builtin "object.__class__") = some true) (hm : PySem.W.mroIn K Ca (.type "object") = some true)
    (n1 : PySem.W.kitOne K (.ref Ca) (.type "int") = some false) (n2 : PySem.W.kitOne K (.ref Ca) (.type "str") = some false) (n3 : PySem.W.kitOne K (.ref Ca) (.type "bool") = some false) (n4 : PySem.W.kitOne K (.ref Ca) (.type "tuple") = some false) (n5 : PySem.W.kitOne K (.ref Ca) (.type "list") = some false) : MA K C q st :=
  ⟨Ca, fa, _, fun_mk l c k, a, ⟨⟨pg, hd, po, sa⟩, ha, hn, htk, hm, by simp only [List.forall_mem_cons, List.not_mem_nil, false_implies, implies_true, and_true]; exact ⟨n1, n2, n3, n4, n5⟩⟩, ⟨mk, fi, i, kc⟩⟩
theorem sm_at {K : PySem.W.Frag} {C m q : Str} {st : Stmt} {Ca fa p : Addr} {rest : List Value} {oc : Value} {od an : Option Addr} {osl : Array (Option Value)} {kV doc pm cdv ct : Value}
    (a : PySem.W.nsIn K mainGlobals C = some (some (.ref Ca))) (fc : PySem.W.findCls K (.ref Ca) (.type "type") m = some (.get (.builtin "staticmethod.__get__") (.ref p) .none (.ref Ca))) (rc : PySem.W.recIn K p "staticmethod" = some (.ref fa :: rest))
    (l : K.lookup fa = some { cls := oc, dict := od, data := .func (PySem.W.fnOf m q (defArgs st) (defBody st) (defScope st) .none kV doc pm an cdv ct), slots := osl })
    (c : PySem.W.codeIn K cdv q = true) (k : PySem.W.keepIn K (.ref fa) = true) (rd : PySem.W.readsIn K Ca (.type "type") = true) (ga : PySem.W.specialIn K (.ref Ca) "__getattribute__" = some (some (.builtin "type.__getattribute__"))) : SA K C m q st :=
  ⟨Ca, fa, _, fun_mk l c k, a, ⟨rd, ga⟩, ⟨p, fc, rest, rc⟩, k⟩
theorem na_at {K : PySem.W.Frag} {C f : Str} {Ca : Addr} (a : PySem.W.nsIn K mainGlobals C = some (some (.ref Ca))) (n : PySem.W.findIn K (.ref Ca) f = some none) : ∃ Ca, PySem.W.nsIn K mainGlobals C = some (some (.ref Ca)) ∧ NoAttr K Ca f := ⟨Ca, a, n⟩
end Sn.Lk08
open PySem PySem.W PyProof.Rows
set_option maxHeartbeats 0 in
theorem PySem.Challenge.cw_startnow_k08_histories_recognized_holds : PySem.Challenge.rw_startnow_k08_histories_recognized.Holds := by
  w_on; o_law; k_head; (case hw => w_witness2)
  k_fill
  refine L2.walk_of (l := PySem.Challenge.rw_startnow_k08_histories_recognized) (n := 63) (k := 60) (x := "script") (CX := fun w => L2.CX PySem.Challenge.rw_startnow_k08_histories_recognized.prog w) (sp := fun w => Sn.spLaw _ 63) rfl (by decide) rfl ⟨rfl, by decide, by decide⟩ (fun w h Y => PySem.W.kIn_of Y) ?F (fun _ _ a ns hl _ hS => ⟨a, ns, rfl, hS, hl, fun _ => rfl⟩) (fun _ _ _ _ _ ⟨_, _, _, _, _, _, _, _, _, _, _, _, h⟩ => h)
  case F =>
    intro w mg fa h KX G hmg
    refine' Sn.Lk08.all_mk (k := 29) Sn.Lk08.plain KX G hmg ?d_is_integer ?d_is_at_least ?d_is_name ?d_is_ascending ?d_is_point ?d_is_bound ?d_is_task ?d_are_events ?d_are_bounds ?d_begins_of ?d_is_rooted ?d_are_tasks ?d_is_plan ?d_check_plan ?d_moment_of ?d_are_moments ?d_is_history_of ?d_is_history ?d__law_sack ?d__law_dip ?d__law_twin ?d__law_jobs ?d__law_worth ?d__law_little ?d__law_own ?d__law_put ?d__law_starts ?d__law_stops ?d__law_nothing ?d__law_walked ?d__law_is_whole ?d__law_is_past ?d__law_bent_part ?d__law_titles ?d__law_few_limits ?d__law_long_jobs ?d__law_great ?d_law ?d_mk_Live ?d_sm_Live_is_valid ?z_range ?z_zip ?z_enumerate ?z_isinstance ?z_len ?z_abs ?z_max ?z_min ?z_int ?z_str ?z_tuple ?z_list ?z_sorted ?z_all ?z_any ?z_sum ?z_bool ?c_GO ?c_LETTERS ?c_LONGEST_NAME ?c_PLAIN ?c_NONE ?c_AT ?c_DIGITS ?c_SAFE ?c_LOST ?c_START ?n_Live_held_plan ?n_Live_state ?n_Live_calls
    case d_is_integer =>
      refine' Sn.def_at ?a ?l ?c ?k
      (case a => k_is); (case l => k_is); (case c => k_is); (case k => k_is)
    case d_is_at_least =>
      refine' Sn.def_at ?a ?l ?c ?k
      (case a => k_is); (case l => k_is); (case c => k_is); (case k => k_is)
    case d_is_name =>
      refine' Sn.def_at ?a ?l ?c ?k
      (case a => k_is); (case l => k_is); (case c => k_is); (case k => k_is)
    case d_is_ascending =>
      refine' Sn.def_at ?a ?l ?c ?k
      (case a => k_is); (case l => k_is); (case c => k_is); (case k => k_is)
    case d_is_point =>
      refine' Sn.def_at ?a ?l ?c ?k
      (case a => k_is); (case l => k_is); (case c => k_is); (case k => k_is)
    case d_is_bound =>
      refine' Sn.def_at ?a ?l ?c ?k
      (case a => k_is); (case l => k_is); (case c => k_is); (case k => k_is)
    case d_is_task =>
      refine' Sn.def_at ?a ?l ?c ?k
      (case a => k_is); (case l => k_is); (case c => k_is); (case k => k_is)
    case d_are_events =>
      refine' Sn.def_at ?a ?l ?c ?k
      (case a => k_is); (case l => k_is); (case c => k_is); (case k => k_is)
    case d_are_bounds =>
      refine' Sn.def_at ?a ?l ?c ?k
      (case a => k_is); (case l => k_is); (case c => k_is); (case k => k_is)
    case d_begins_of =>
      refine' Sn.def_at ?a ?l ?c ?k
      (case a => k_is); (case l => k_is); (case c => k_is); (case k => k_is)
    case d_is_rooted =>
      refine' Sn.def_at ?a ?l ?c ?k
      (case a => k_is); (case l => k_is); (case c => k_is); (case k => k_is)
    case d_are_tasks =>
      refine' Sn.def_at ?a ?l ?c ?k
      (case a => k_is); (case l => k_is); (case c => k_is); (case k => k_is)
    case d_is_plan =>
      refine' Sn.def_at ?a ?l ?c ?k
      (case a => k_is); (case l => k_is); (case c => k_is); (case k => k_is)
    case d_check_plan =>
      refine' Sn.def_at ?a ?l ?c ?k
      (case a => k_is); (case l => k_is); (case c => k_is); (case k => k_is)
    case d_moment_of =>
      refine' Sn.def_at ?a ?l ?c ?k
      (case a => k_is); (case l => k_is); (case c => k_is); (case k => k_is)
    case d_are_moments =>
      refine' Sn.def_at ?a ?l ?c ?k
      (case a => k_is); (case l => k_is); (case c => k_is); (case k => k_is)
    case d_is_history_of =>
      refine' Sn.def_at ?a ?l ?c ?k
      (case a => k_is); (case l => k_is); (case c => k_is); (case k => k_is)
    case d_is_history =>
      refine' Sn.def_at ?a ?l ?c ?k
      (case a => k_is); (case l => k_is); (case c => k_is); (case k => k_is)
    case d__law_sack =>
      refine' Sn.def_at ?a ?l ?c ?k
      (case a => k_is); (case l => k_is); (case c => k_is); (case k => k_is)
    case d__law_dip =>
      refine' Sn.def_at ?a ?l ?c ?k
      (case a => k_is); (case l => k_is); (case c => k_is); (case k => k_is)
    case d__law_twin =>
      refine' Sn.def_at ?a ?l ?c ?k
      (case a => k_is); (case l => k_is); (case c => k_is); (case k => k_is)
    case d__law_jobs =>
      refine' Sn.def_at ?a ?l ?c ?k
      (case a => k_is); (case l => k_is); (case c => k_is); (case k => k_is)
    case d__law_worth =>
      refine' Sn.def_at ?a ?l ?c ?k
      (case a => k_is); (case l => k_is); (case c => k_is); (case k => k_is)
    case d__law_little =>
      refine' Sn.def_at ?a ?l ?c ?k
      (case a => k_is); (case l => k_is); (case c => k_is); (case k => k_is)
    case d__law_own =>
      refine' Sn.def_at ?a ?l ?c ?k
      (case a => k_is); (case l => k_is); (case c => k_is); (case k => k_is)
    case d__law_put =>
      refine' Sn.def_at ?a ?l ?c ?k
      (case a => k_is); (case l => k_is); (case c => k_is); (case k => k_is)
    case d__law_starts =>
      refine' Sn.def_at ?a ?l ?c ?k
      (case a => k_is); (case l => k_is); (case c => k_is); (case k => k_is)
    case d__law_stops =>
      refine' Sn.def_at ?a ?l ?c ?k
      (case a => k_is); (case l => k_is); (case c => k_is); (case k => k_is)
    case d__law_nothing =>
      refine' Sn.def_at ?a ?l ?c ?k
      (case a => k_is); (case l => k_is); (case c => k_is); (case k => k_is)
    case d__law_walked =>
      refine' Sn.def_at ?a ?l ?c ?k
      (case a => k_is); (case l => k_is); (case c => k_is); (case k => k_is)
    case d__law_is_whole =>
      refine' Sn.def_at ?a ?l ?c ?k
      (case a => k_is); (case l => k_is); (case c => k_is); (case k => k_is)
    case d__law_is_past =>
      refine' Sn.def_at ?a ?l ?c ?k
      (case a => k_is); (case l => k_is); (case c => k_is); (case k => k_is)
    case d__law_bent_part =>
      refine' Sn.def_at ?a ?l ?c ?k
      (case a => k_is); (case l => k_is); (case c => k_is); (case k => k_is)
    case d__law_titles =>
      refine' Sn.def_at ?a ?l ?c ?k
      (case a => k_is); (case l => k_is); (case c => k_is); (case k => k_is)
    case d__law_few_limits =>
      refine' Sn.def_at ?a ?l ?c ?k
      (case a => k_is); (case l => k_is); (case c => k_is); (case k => k_is)
    case d__law_long_jobs =>
      refine' Sn.def_at ?a ?l ?c ?k
      (case a => k_is); (case l => k_is); (case c => k_is); (case k => k_is)
    case d__law_great =>
      refine' Sn.def_at ?a ?l ?c ?k
      (case a => k_is); (case l => k_is); (case c => k_is); (case k => k_is)
    case d_law =>
      refine' Sn.def_at ?a ?l ?c ?k
      (case a => k_is); (case l => k_is); (case c => k_is); (case k => k_is)
    case d_mk_Live =>
      refine' Sn.Lk08.mk_at ?a ?l ?c ?k ?fi ?i ?mk ?kc ?pg ?hd ?po ?sa ?ha ?hn ?htk ?hm ?n1 ?n2 ?n3 ?n4 ?n5
      (case a => k_is); (case fi => k_is); (case l => k_is); (case c => k_is); (case k => k_is); (case i => k_is); (case mk => k_is); (case kc => k_is); (case pg => k_is); (case hd => k_is); (case po => k_is); (case sa => k_is); (case ha => k_is); (case hn => k_is); (case htk => k_is); (case hm => k_is); (case n1 => kit_is); (case n2 => kit_is); (case n3 => kit_is); (case n4 => kit_is); (case n5 => kit_is)
    case d_sm_Live_is_valid =>
      refine' Sn.Lk08.sm_at ?a ?fc ?rc ?l ?c ?k ?rd ?ga
      (case a => k_is); (case fc => k_is); (case rc => k_is); (case l => k_is); (case c => k_is); (case k => k_is); (case rd => k_is); (case ga => k_is)
    case z_range => k_is
    case z_zip => k_is
    case z_enumerate => k_is
    case z_isinstance => k_is
    case z_len => k_is
    case z_abs => k_is
    case z_max => k_is
    case z_min => k_is
    case z_int => k_is
    case z_str => k_is
    case z_tuple => k_is
    case z_list => k_is
    case z_sorted => k_is
    case z_all => k_is
    case z_any => k_is
    case z_sum => k_is
    case z_bool => k_is
    case c_GO =>
      refine' Sn.con_at ?c ?r
      (case c => k_is); (case r => exact ⟨_, rfl⟩)
    case c_LETTERS =>
      refine' Sn.con_at ?c ?r
      (case c => k_is); (case r => exact ⟨_, rfl⟩)
    case c_LONGEST_NAME =>
      refine' Sn.con_at ?c ?r
      (case c => k_is); (case r => exact ⟨_, rfl⟩)
    case c_PLAIN =>
      refine' Sn.con_at ?c ?r
      (case c => k_is); (case r => exact ⟨_, rfl⟩)
    case c_NONE =>
      refine' Sn.con_at ?c ?r
      (case c => k_is); (case r => exact ⟨_, rfl⟩)
    case c_AT =>
      refine' Sn.con_at ?c ?r
      (case c => k_is); (case r => exact ⟨_, rfl⟩)
    case c_DIGITS =>
      refine' Sn.con_at ?c ?r
      (case c => k_is); (case r => exact ⟨_, rfl⟩)
    case c_SAFE =>
      refine' Sn.con_at ?c ?r
      (case c => k_is); (case r => exact ⟨_, rfl⟩)
    case c_LOST =>
      refine' Sn.con_at ?c ?r
      (case c => k_is); (case r => exact ⟨_, rfl⟩)
    case c_START =>
      refine' Sn.con_at ?c ?r
      (case c => k_is); (case r => exact ⟨_, rfl⟩)
    case n_Live_held_plan =>
      refine' Sn.Lk08.na_at ?a ?n
      (case a => k_is); (case n => k_is)
    case n_Live_state =>
      refine' Sn.Lk08.na_at ?a ?n
      (case a => k_is); (case n => k_is)
    case n_Live_calls =>
      refine' Sn.Lk08.na_at ?a ?n
      (case a => k_is); (case n => k_is)
