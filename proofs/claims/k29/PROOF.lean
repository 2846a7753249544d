import PyProof.Rows.All
import Wide.All
import OpenK.AllK
import Wide.FinOn
import HandS.ForMost
import HandS.Wide
import KE.KeyNested
import KE.KDictWalk
import HandS.TupAny
import HandS.TupMul
import HandS.Style
import HandS.IsInst
import HandS.Conv
import HandS.Star
import KE.DataFind
import HandS.More
import HandS.Comp
import HandS.Dict
import KE.GoesMore
import HandS.Text
import HandS.FStr
import HandS.Strs
import HandS.SetFor
import KE.DataMinMax
import KE.KDictDisplayH
import HandS.TupLen
import PySem.Challenge.RW_paperpiles_k29_whole_ways_to_piles
set_option Elab.async false
set_option linter.all false
set_option maxRecDepth 1000000
set_option maxHeartbeats 4000000
namespace PP
open PySem PySem.Spec PyProof.Rows L2

/-! ### data, the tape, what holds what -/
abbrev D := PyData
structure T where
  ns : List Int
  i : Int
  j : Int
structure G where
  ta : Addr
  ca : Addr
abbrev tapeD : D := .dict [(.none, .none)]

def kD : Key → D
  | .inl i => .int i
  | .inr x => .str x
/-- the pairs of a dict, as data -/
def zipK : List Key → List D → List (D × D)
  | k :: ks, d :: ds => (kD k, d) :: zipK ks ds
  | _, _ => []
/-- an object that bears no dict and no slots -/
def Bare (o : Obj) : Prop := o.dict = none ∧ o.slots = #[]
/-- a tuple whose very object is known, or one of the written part -/
def TpAt (K : PySem.W.Frag) (B : Hp) (a : Addr) (xs : List V) : Prop := (∃ o, B a = some (.frz o (.tup xs)) ∧ Bare o) ∨
  ∃ (o : Obj) (its : Array Value) (n : Nat), K.lookup a = some o ∧ o.cls = .type "tuple" ∧ Bare o ∧ o.data = .seq its n ∧ its.size ≤ sizeLine ∧ Vals xs its.toList
theorem TpAt.sq {K : PySem.W.Frag} {B : Hp} {a : Addr} {xs : List V} (h : TpAt K B a xs) : SqT K B a xs := by
  rcases h with ⟨o, h, _⟩ | ⟨o, its, n, h1, h2, _, h3, h4, h5⟩
  · exact .inl (.inr ⟨o, h⟩)
  · exact .inr ⟨o, its, n, h1, h2, h3, h4, h5⟩
/-! dicts whose keys are tuples, nested -/
mutual
def nkOf : D → Option NestedKey
  | .none => some .none
  | .bool b => some (.num (if b = true then 1 else 0))
  | .int i => some (.num i)
  | .tuple ds => (nkL ds).map .tup
  | _ => none
def nkL : List D → Option (List NestedKey)
  | [] => some []
  | d :: ds => match nkOf d with
    | some k => (nkL ds).map (k :: ·)
    | none => none
end
def nkD : D → Option NestedKey
  | .tuple ds => match nkL ds with
    | some ks => if Nat.ble (NestedKey.depthAll ks) 7 = true then some (.tup ks) else none
    | none => none
  | _ => none
/-- the very object at an address -/
def obO (a : Addr) (ob : Obj) : HO := .ext fun h => h.get? a = some ob
abbrev NK := NestedKey × Addr × V
abbrev NPair (ks : List NK) (xs : List (NestedKey × Addr × Value)) : Prop := Paired (fun (p : NK) (q : NestedKey × Addr × Value) => p.1 = q.1 ∧ p.2.1 = q.2.1 ∧ RelV p.2.2 q.2.2) ks xs
def DxP (a : Addr) (ob : Obj) (ks : List NK) : Prop := ks.length ≤ sizeLine ∧ (a == sysModules) = false ∧ ob.ExactDict ∧
  ∃ (xs : List (NestedKey × Addr × Value)) (es : Array DictEntry) (ep : Nat), NPair ks xs ∧ (xs.map (·.1)).Nodup ∧ ob.data = .dict es ep ∧ ∀ w : World, es.toList = xs.map fun x => ⟨x.1.hash w, .ref x.2.1, x.2.2⟩
/-- the mark of such a dict, as data -/
abbrev mkP : D × D := (.dict [], .none)
mutual
inductive Hd (K : PySem.W.Frag) (g : G) (B : Hp) : V → D → Prop
  | non : Hd K g B .non .none
  | bl (b : Bool) : Hd K g B (.bl b) (.bool b)
  | int (i : Int) : Hd K g B (.int i) (.int i)
  | str (x : Str) : Hd K g B (.str x) (.str x)
  | lst {a : Addr} {xs : List V} {ds : List D} : B a = some (.lst xs) → HdL K g B xs ds → Hd K g B (.ref a) (.list ds)
  | tup {a : Addr} {xs : List V} {ds : List D} : TpAt K B a xs → HdL K g B xs ds → Hd K g B (.ref a) (.tuple ds)
  | dct {a : Addr} {kvs : List (Key × V)} {ds : List D} : B a = some (.dK kvs) → HdL K g B (kvs.map (·.2)) ds → Hd K g B (.ref a) (.dict (zipK (kvs.map (·.1)) ds))
  | tape : Hd K g B (.ref g.ta) (.dict [(.none, .none)])
  | dx {a : Addr} {ob : Obj} {ks : List NK} {dk dv : List D} : B a = some (obO a ob) → DxP a ob ks → HdL K g B (ks.map fun x => .ref x.2.1) dk → HdL K g B (ks.map (·.2.2)) dv → dk.map nkD = ks.map (fun x => some x.1) →
    Hd K g B (.ref a) (.dict (mkP :: dk.zip dv))
inductive HdL (K : PySem.W.Frag) (g : G) (B : Hp) : List V → List D → Prop
  | nil : HdL K g B [] []
  | cons {v : V} {vs : List V} {d : D} {ds : List D} : Hd K g B v d → HdL K g B vs ds → HdL K g B (v :: vs) (d :: ds)
end

section
variable {K : PySem.W.Frag} {g : G} {B B' H H' : Hp}
def Sub (B H : Hp) : Prop := ∀ b o, B b = some o → H b = some o
theorem Sub.refl (B : Hp) : Sub B B := fun _ _ h => h
theorem Sub.trans {A B C : Hp} (a : Sub A B) (b : Sub B C) : Sub A C := fun c o h => b c o (a c o h)
theorem Sub.new {H : Hp} {p : Addr} {o : HO} (h : H p = none) : Sub H (upd H p o) := fun b x e => by
  rw [upd_ne (ne_of_none e h)]
  exact e
theorem Sub.sqt {a : Addr} {xs : List V} (s : Sub B H) (h : SqT K B a xs) : SqT K H a xs := by
  rcases h with (h | ⟨o, h⟩) | h
  · exact .inl (.inl (s _ _ h))
  · exact .inl (.inr ⟨o, s _ _ h⟩)
  · exact .inr h
theorem Sub.tp {a : Addr} {xs : List V} (s : Sub B H) (h : TpAt K B a xs) : TpAt K H a xs := by
  rcases h with ⟨o, h, d⟩ | h
  · exact .inl ⟨o, s _ _ h, d⟩
  · exact .inr h
mutual
theorem Hd.mono (s : Sub B B') : ∀ {v : V} {d : D}, Hd K g B v d → Hd K g B' v d
  | _, _, .non => .non
  | _, _, .bl _ => .bl _
  | _, _, .int _ => .int _
  | _, _, .str _ => .str _
  | _, _, .lst h1 h2 => .lst (s _ _ h1) (HdL.mono s h2)
  | _, _, .tup h1 h2 => .tup (s.tp h1) (HdL.mono s h2)
  | _, _, .dct h1 h2 => .dct (s _ _ h1) (HdL.mono s h2)
  | _, _, .tape => .tape
  | _, _, .dx h1 h2 h3 h4 h5 => .dx (s _ _ h1) h2 (HdL.mono s h3) (HdL.mono s h4) h5
theorem HdL.mono (s : Sub B B') : ∀ {vs : List V} {ds : List D}, HdL K g B vs ds → HdL K g B' vs ds
  | _, _, .nil => .nil
  | _, _, .cons h1 h2 => .cons (Hd.mono s h1) (HdL.mono s h2)
end
def atomic : D → Bool
  | .none => true
  | .bool _ => true
  | .int _ => true
  | .str _ => true
  | _ => false
theorem Hd.atom {v : V} {d : D} (h : Hd K g B v d) (a : atomic d = true) : Hd K g B' v d := by
  cases h with
  | non => exact .non
  | bl b => exact .bl b
  | int i => exact .int i
  | str x => exact .str x
  | lst _ _ => cases a
  | tup _ _ => cases a
  | dct _ _ => cases a
  | tape => cases a
  | dx _ _ _ _ _ => cases a
theorem HdL.len : ∀ {ds : List D} {vs : List V}, HdL K g B vs ds → vs.length = ds.length
  | [], _, h => by cases h; rfl
  | _ :: _, _, h => by
    cases h with
    | cons h1 h2 => rw [List.length_cons, List.length_cons, HdL.len h2]
theorem HdL.get : ∀ {ds : List D} {vs : List V} {i : Nat} {d : D}, HdL K g B vs ds → ds[i]? = some d → ∃ v, vs[i]? = some v ∧ Hd K g B v d
  | [], _, _, _, _, e => by simp at e
  | d :: ds, _, i, x, h, e => by
    cases h with
    | cons h1 h2 =>
      cases i with
      | zero => simp at e; subst e; exact ⟨_, rfl, h1⟩
      | succ i =>
        obtain ⟨v, h3, h4⟩ := HdL.get (i := i) (d := x) h2 (by simpa using e)
        exact ⟨v, by simpa using h3, h4⟩
theorem HdL.get' : ∀ {ds : List D} {vs : List V} {i : Nat} {v : V}, HdL K g B vs ds → vs[i]? = some v → ∃ d, ds[i]? = some d ∧ Hd K g B v d
  | [], _, _, _, h, e => by cases h; simp at e
  | d :: ds, _, i, x, h, e => by
    cases h with
    | cons h1 h2 =>
      cases i with
      | zero => simp at e; subst e; exact ⟨_, rfl, h1⟩
      | succ i =>
        obtain ⟨v, h3, h4⟩ := HdL.get' (i := i) (v := x) h2 (by simpa using e)
        exact ⟨v, by simpa using h3, h4⟩
theorem HdL.app : ∀ {ds es : List D} {vs ws : List V}, HdL K g B vs ds → HdL K g B ws es → HdL K g B (vs ++ ws) (ds ++ es)
  | [], _, _, _, h, k => by cases h; exact k
  | _ :: _, _, _, _, h, k => by
    cases h with
    | cons h1 h2 => exact .cons h1 (HdL.app h2 k)
theorem HdL.drop : ∀ {ds : List D} {vs : List V} (n : Nat), HdL K g B vs ds → HdL K g B (vs.drop n) (ds.drop n)
  | _, _, 0, h => h
  | [], _, n + 1, h => by cases h; exact .nil
  | _ :: _, _, n + 1, h => by
    cases h with
    | cons h1 h2 => exact HdL.drop n h2
theorem HdL.take : ∀ {ds : List D} {vs : List V} (n : Nat), HdL K g B vs ds → HdL K g B (vs.take n) (ds.take n)
  | _, _, 0, h => .nil
  | [], _, n + 1, h => by cases h; exact .nil
  | _ :: _, _, n + 1, h => by
    cases h with
    | cons h1 h2 => exact .cons h1 (HdL.take n h2)
theorem HdL.rev : ∀ {ds : List D} {vs : List V}, HdL K g B vs ds → HdL K g B vs.reverse ds.reverse
  | [], _, h => by cases h; exact .nil
  | _ :: _, _, h => by
    cases h with
    | cons h1 h2 =>
      rw [List.reverse_cons, List.reverse_cons]
      exact HdL.app (HdL.rev h2) (.cons h1 .nil)
theorem HdL.set : ∀ {ds : List D} {vs : List V} {v : V} {d : D} (i : Nat), HdL K g B vs ds → Hd K g B v d → HdL K g B (vs.set i v) (ds.set i d)
  | [], _, _, _, _, h, _ => by cases h; exact .nil
  | _ :: _, _, _, _, 0, h, k => by
    cases h with
    | cons h1 h2 => exact .cons k h2
  | _ :: _, _, _, _, i + 1, h, k => by
    cases h with
    | cons h1 h2 => exact .cons h1 (HdL.set i h2 k)

/-! ### the state's relation -/
structure Base (g : G) (B H : Hp) (t : T) : Prop where
  sub : Sub B H
  tp : H g.ta = some (.lst [.ref g.ca, .int t.i, .int t.j])
  tb : B g.ta = none
  cl : B g.ca = some (.lst (t.ns.map V.int))
structure Step (g : G) (B H : Hp) (t' : T) (B' H' : Hp) : Prop where
  bs : Base g B' H' t'
  b1 : Sub B B'
  b3 : ∀ b, H b ≠ none → B b = none → B' b = none
  h1 : ∀ b o, b ≠ g.ta → H b = some o → H' b = some o
theorem Step.refl {t : T} (h : Base g B H t) : Step g B H t B H := ⟨h, .refl _, fun _ _ h => h, fun _ _ _ h => h⟩
theorem Step.live {t t' : T} (h : Base g B H t) (s : Step g B H t' B' H') {b : Addr} (hb : H b ≠ none) : H' b ≠ none := by
  by_cases e : b = g.ta
  · rw [e, s.bs.tp]; exact fun z => nomatch z
  · cases q : H b with
    | none => exact absurd q hb
    | some o => rw [s.h1 b o e q]; exact fun z => nomatch z
theorem Step.trans {t t1 t2 : T} {B1 H1 B2 H2 : Hp} (h : Base g B H t) (a : Step g B H t1 B1 H1) (b : Step g B1 H1 t2 B2 H2) : Step g B H t2 B2 H2 :=
  ⟨b.bs, a.b1.trans b.b1, fun c hc hn => b.b3 c (a.live h hc) (a.b3 c hc hn), fun c o hc e => b.h1 c o hc (a.h1 c o hc e)⟩
/-- a new object laid, known to the base -/
theorem Step.new {t : T} {p : Addr} {o : HO} (h : Base g B H t) (hp : H p = none) : Step g B H t (upd B p o) (upd H p o) := by
  have nt : g.ta ≠ p := ne_of_none h.tp hp
  have bp : B p = none := by
    cases q : B p with
    | none => rfl
    | some u => rw [h.sub p u q] at hp; cases hp
  refine ⟨⟨fun b u e => ?_, by rw [upd_ne nt]; exact h.tp, by rw [upd_ne nt]; exact h.tb, by rw [upd_ne (ne_of_none h.cl bp)]; exact h.cl⟩, .new bp, fun b hb hn => ?_, fun b u _ e => ?_⟩
  · by_cases hb : b = p
    · subst hb; rw [upd_same] at e ⊢; exact e
    · rw [upd_ne hb] at e ⊢; exact h.sub b u e
  · rw [upd_ne (fun z => hb (by rw [z]; exact hp))]; exact hn
  · rw [upd_ne (ne_of_none e hp)]; exact e
/-- a new object laid, not known to the base -/
theorem Step.hid {t : T} {p : Addr} {o : HO} (h : Base g B H t) (hp : H p = none) : Step g B H t B (upd H p o) := by
  have nt : g.ta ≠ p := ne_of_none h.tp hp
  exact ⟨⟨h.sub.trans (.new hp), by rw [upd_ne nt]; exact h.tp, h.tb, h.cl⟩, .refl _, fun _ _ hn => hn, fun b u _ e => by rw [upd_ne (ne_of_none e hp)]; exact e⟩

abbrev Sg := List (Option V)
abbrev Env := List (Option D)
abbrev SE := Env → T → Option (D × T)
structure Rep (K : PySem.W.Frag) (g : G) (B H : Hp) (σ : Sg) (env : Env) (t : T) : Prop where
  bs : Base g B H t
  len : env.length = σ.length
  vars : ∀ (i : Nat) (d : D), env[i]? = some (some d) → ∃ v, σ[i]? = some (some v) ∧ Hd K g B v d
theorem Rep.step {σ : Sg} {env : Env} {t t' : T} (r : Rep K g B H σ env t) (s : Step g B H t' B' H') : Rep K g B' H' σ env t' :=
  ⟨s.bs, r.len, fun i d e => let ⟨v, h1, h2⟩ := r.vars i d e; ⟨v, h1, h2.mono s.b1⟩⟩
end

/-! ### expressions -/
def tD (K : PySem.W.Frag) (f : SE) : TE := fun (σ : Sg) H Q => ∃ g B env t d t', Rep K g B H σ env t ∧ f env t = some (d, t') ∧
  ∀ v B' H', Step g B H t' B' H' → Hd K g B' v d → Q v H'
structure EV (X : Cx) (e : Expr) (f : SE) : Prop where
  pe : PE X e (tD X.K f)
theorem pe_weak {X : Cx} {e : Expr} {t t' : TE} (h : PE X e t) (w : ∀ σ H Q, t' σ H Q → t σ H Q) : PE X e t' :=
  ⟨fun pins s σ H Q I q => h.run pins s σ H Q I (w σ H Q q)⟩

def cVar (i : Nat) : SE := fun e t => match e[i]? with
  | some (some d) => some (d, t)
  | _ => none
def cC (d : D) : SE := fun _ t => some (d, t)
def cBin (op : D → D → Option D) (a b : SE) : SE := fun e t => match a e t with
  | some (x, t1) => match b e t1 with
    | some (y, t2) => match op x y with
      | some z => some (z, t2)
      | none => none
    | none => none
  | none => none

section
variable {X : Cx} {a b : Expr} {fa fb : SE} {pos : Pos}
theorem ev_var (i : Nat) {x : Str} (hN : X.N[i]? = some x := by rfl) (hv : Vis X.env.scope x := by first | exact Or.inl rfl | exact Or.inr (Or.inl rfl) | exact Or.inr (Or.inr rfl)) (hd : (x == ("__debug__" : Str)) = false := by decide)
    (hcd : (x == ("__classdict__" : Str)) = false := by decide) : EV X (.Name x pos) (cVar i) := ⟨pe_weak (pe_var hN hv hd hcd) fun σ H Q h => by
  obtain ⟨g, B, env, t, d, t', r, e, q⟩ := h
  unfold cVar at e
  split at e
  · rename_i d' ed
    cases e
    obtain ⟨v, h1, h2⟩ := r.vars i _ ed
    exact ⟨v, h1, q v B H (.refl r.bs) h2⟩
  · cases e⟩
theorem ev_c {e : Expr} {v : V} {d : D} (h : PE X e (tC v)) (hd : ∀ g B, Hd X.K g B v d) : EV X e (cC d) := ⟨pe_weak h fun σ H Q h => by
  obtain ⟨g, B, env, t, d', t', r, e, q⟩ := h
  cases e
  exact q v B H (.refl r.bs) (hd _ _)⟩
theorem ev_int {i j} : EV X (.Constant (.int i) j pos) (cC (.int i)) := ev_c pe_int fun _ _ => .int _
theorem ev_bl {i j} : EV X (.Constant (.bool i) j pos) (cC (.bool i)) := ev_c pe_bl fun _ _ => .bl _
theorem ev_non {j} : EV X (.Constant .none j pos) (cC .none) := ev_c pe_non fun _ _ => .non
theorem ev_str {i j} : EV X (.Constant (.str i) j pos) (cC (.str i)) := ev_c pe_str fun _ _ => .str _

/-- what an operator's rule by values must give -/
def OpD (K : PySem.W.Frag) (r : R2) (op : D → D → Option D) : Prop := ∀ (g : G) (B H : Hp) (t : T) (x y : V) (dx dy d : D) (Q : VK), Base g B H t → Hd K g B x dx → Hd K g B y dy → op dx dy = some d →
  (∀ v B' H', Step g B H t B' H' → Hd K g B' v d → Q v H') → r x y H Q
theorem tbin {r : R2} {op : D → D → Option D} (hr : OpD X.K r op) {σ : Sg} {H : Hp} {Q : VK} (h : tD X.K (cBin op fa fb) σ H Q) : tOp r (tD X.K fa) (tD X.K fb) σ H Q := by
  obtain ⟨g, B, env, t, d, t', rp, e, q⟩ := h
  unfold cBin at e
  split at e
  · rename_i da t1 ea
    split at e
    · rename_i db t2 eb
      split at e
      · rename_i z ez
        cases e
        refine ⟨g, B, env, t, da, t1, rp, ea, fun v B1 H1 s1 h1 => ?_⟩
        refine ⟨g, B1, env, t1, db, _, rp.step s1, eb, fun w B2 H2 s2 h2 => ?_⟩
        exact hr g B2 H2 _ v w da db _ Q s2.bs (h1.mono s2.b1) h2 ez fun u B3 H3 s3 h3 => q u B3 H3 (s1.trans rp.bs (s2.trans s1.bs s3)) h3
      · cases e
    · cases e
  · cases e
theorem ev_bin {o : Operator} {r : R2} {op : D → D → Option D} (ho : OpR X (binaryOp o) r) (hr : OpD X.K r op) (ha : EV X a fa) (hb : EV X b fb) : EV X (.BinOp a o b pos) (cBin op fa fb) :=
  ⟨pe_weak (pe_op ho ha.pe hb.pe) fun _ _ _ h => tbin hr h⟩
end
end PP

namespace PP
open PySem PySem.Spec PyProof.Rows L2

def LIM : Nat := 100000
theorem lim_le {n : Nat} (h : n ≤ LIM) : n ≤ sizeLine := Nat.le_trans h (by decide)
theorem lim_lt {n : Nat} (h : n < LIM) : n < sizeLine := Nat.lt_of_lt_of_le h (by decide)

section
variable {K : PySem.W.Frag} {g : G} {B H : Hp} {t : T}
/-- values whose data are flat -/
def flatD : D → Bool
  | .none => true
  | .bool _ => true
  | .int _ => true
  | .str _ => true
  | _ => false
theorem Hd.flat {v : V} {d : D} (h : Hd K g B v d) : flatV v = flatD d := by
  cases h <;> rfl
theorem Hd.eqv {v w : V} {d e : D} (h : Hd K g B v d) (k : Hd K g B w e) (fd : flatD d = true) (fe : flatD e = true) : eqV v w = PyData.eqv d e := by
  cases h <;> first | (cases fd; done) | skip
  all_goals (cases k <;> first | (cases fe; done) | (simp [eqV, PyData.eqv]))
def inD (x : D) (xs : List D) : Bool := xs.any fun y => PyData.eqv y x
theorem HdL.inV {x : V} {d : D} (h : Hd K g B x d) (fd : flatD d = true) : ∀ {xs : List V} {ds : List D}, HdL K g B xs ds → ds.all flatD = true → xs.all flatV = true ∧ L2.inV x xs = inD d ds
  | _, [], k, _ => by cases k; exact ⟨rfl, rfl⟩
  | _, e :: ds, k, f => by
    cases k with
    | cons k1 k2 =>
      rw [List.all_cons, Bool.and_eq_true] at f
      obtain ⟨h1, h2⟩ := HdL.inV h fd k2 f.2
      refine ⟨by rw [List.all_cons, k1.flat, f.1, h1]; rfl, ?_⟩
      unfold L2.inV inD at *
      rw [List.any_cons, List.any_cons, k1.eqv h f.1 fd, h2]
mutual
theorem Hd.dp (s : Sub B H) : ∀ {v : V} {d : D}, Hd K g B v d → d.plain = true → Dp K H v d
  | _, _, .non, _ => .non
  | _, _, .bl _, _ => .bl _
  | _, _, .int _, _ => .int _
  | _, _, .str _, _ => .str _
  | _, _, .lst h1 h2, c => .lst (SqL.of (s _ _ h1)) (HdL.dp s h2 (by simpa [PyData.plain] using c))
  | _, _, .tup h1 h2, c => .tup (s.sqt h1.sq) (HdL.dp s h2 (by simpa [PyData.plain] using c))
  | _, _, .dct h1 h2, c => by simp [PyData.plain] at c
  | _, _, .tape, c => by simp [PyData.plain] at c
  | _, _, .dx _ _ _ _ _, c => by simp [PyData.plain] at c
theorem HdL.dp (s : Sub B H) : ∀ {vs : List V} {ds : List D}, HdL K g B vs ds → PyData.plainAll ds = true → DpAll K H vs ds
  | _, _, .nil, _ => .nil
  | _, _, .cons h1 h2, c => by
    rw [PyData.plainAll, Bool.and_eq_true] at c
    exact .cons (Hd.dp s h1 c.1) (HdL.dp s h2 c.2)
end
end

/-! ### ==, in of any data -/
def okD (d : D) : Bool := d.plain && decide (d.depth ≤ 64)
theorem okD_ok {d : D} (h : okD d = true) : d.plain = true ∧ d.depth ≤ 64 := by
  unfold okD at h
  rw [Bool.and_eq_true, decide_eq_true_eq] at h
  exact h
def rEqP (K : PySem.W.Frag) (neg : Bool) : R2 := fun x y H Q => ∃ d e, Dp K H x d ∧ Dp K H y e ∧ okD d = true ∧ okD e = true ∧ Q (.bl (if neg then !PyData.eqv d e else PyData.eqv d e)) H
theorem op_eqP {X : Cx} (hu : X.A.units + 64 < cLine) : OpR X (compareOp .Eq) (rEqP X.K false) := by
  intro pins s σ H x y v u Q I rx ry h
  obtain ⟨d, e, hd, he, sd, se, q⟩ := h
  obtain ⟨as, r1⟩ := Dp.reads I d x v hd rx
  obtain ⟨bs, r2⟩ := Dp.reads I e y u he ry
  have k1 := okD_ok sd
  have k2 := okD_ok se
  exact SeqAt.eq_plain r1 r2 k1.1 k2.1 (by omega) ⟨.bl _, H, I, rfl, q⟩
theorem op_neP {X : Cx} (hu : X.A.units + 64 < cLine) : OpR X (compareOp .NotEq) (rEqP X.K true) := by
  intro pins s σ H x y v u Q I rx ry h
  obtain ⟨d, e, hd, he, sd, se, q⟩ := h
  obtain ⟨as, r1⟩ := Dp.reads I d x v hd rx
  obtain ⟨bs, r2⟩ := Dp.reads I e y u he ry
  have k1 := okD_ok sd
  have k2 := okD_ok se
  exact SeqAt.ne_plain r1 r2 k1.1 k2.1 (by omega) ⟨.bl _, H, I, rfl, q⟩
def rInP (K : PySem.W.Frag) (neg : Bool) : R2 := fun x y H Q => ∃ d xs, Dp K H x d ∧ (Dp K H y (.list xs) ∨ Dp K H y (.tuple xs)) ∧ okD d = true ∧ PyData.plainAll xs = true ∧ Q (.bl (if neg then !inD d xs else inD d xs)) H
theorem op_inP {X : Cx} (hu : X.A.units + 100 < cLine) : OpR X (compareOp .In) (rInP X.K false) := by
  intro pins s σ H x y v u Q I rx ry h
  obtain ⟨d, xs, hd, he, sd, se, q⟩ := h
  obtain ⟨as, r1⟩ := Dp.reads I d x v hd rx
  have k1 := okD_ok sd
  rcases he with he | he
  · obtain ⟨bs, r2⟩ := Dp.reads I _ y u he ry
    exact SeqAt.in_list_data r2 r1 se k1.1 (by omega) ⟨.bl _, H, I, rfl, q⟩
  · obtain ⟨bs, r2⟩ := Dp.reads I _ y u he ry
    exact SeqAt.in_tuple_data r2 r1 se k1.1 (by omega) ⟨.bl _, H, I, rfl, q⟩
theorem op_notInP {X : Cx} (hu : X.A.units + 100 < cLine) : OpR X (compareOp .NotIn) (rInP X.K true) := by
  intro pins s σ H x y v u Q I rx ry h
  obtain ⟨d, xs, hd, he, sd, se, q⟩ := h
  obtain ⟨as, r1⟩ := Dp.reads I d x v hd rx
  have k1 := okD_ok sd
  rcases he with he | he
  · obtain ⟨bs, r2⟩ := Dp.reads I _ y u he ry
    exact SeqAt.notIn_list_data r2 r1 se k1.1 (by omega) ⟨.bl _, H, I, rfl, q⟩
  · obtain ⟨bs, r2⟩ := Dp.reads I _ y u he ry
    exact SeqAt.notIn_tuple_data r2 r1 se k1.1 (by omega) ⟨.bl _, H, I, rfl, q⟩
theorem Base.lst {K : PySem.W.Frag} {g : G} {B H : Hp} {t : T} {p : Addr} {vs : List V} {ds : List D} {Q : VK} (bs : Base g B H t) (h : HdL K g B vs ds) (np : H p = none)
    (q : ∀ v B' H', Step g B H t B' H' → Hd K g B' v (.list ds) → Q v H') : Q (.ref p) (upd H p (.lst vs)) :=
  q _ _ _ (Step.new bs np) (.lst upd_same (h.mono (Step.new (o := .lst vs) bs np).b1))
theorem Base.tup {K : PySem.W.Frag} {g : G} {B H : Hp} {t : T} {p : Addr} {ob : Obj} {vs : List V} {ds : List D} {Q : VK} (bs : Base g B H t) (h : HdL K g B vs ds) (np : H p = none) (od : Bare ob)
    (q : ∀ v B' H', Step g B H t B' H' → Hd K g B' v (.tuple ds) → Q v H') : Q (.ref p) (upd H p (.frz ob (.tup vs))) :=
  q _ _ _ (Step.new bs np) (.tup (.inl ⟨ob, upd_same, od⟩) (h.mono (Step.new (o := .frz ob (.tup vs)) bs np).b1))

/-! ### new tuples whose object is known -/
/-- a new tuple of xs -/
def NewT (H : Hp) (xs : List V) (Q : VK) : Prop := ∀ (p : Addr) (o : Obj), H p = none → Bare o → Q (.ref p) (upd H p (.frz o (.tup xs)))
section
variable {X : Cx} {pins : List (Addr × Obj)} {σ : L2.St} {H : Hp} {s : Shared}
theorem laidZ {h' : Heap} {a : Addr} {t' : Nat} {its : List Value} {xs : List V} (I : Inv X pins σ H s) (k : ∀ b u, s.heap.get? b = some u → h'.get? b = some u) (hp : s.heap.objs.size ≤ a) (ha : h'.get? a = some { cls := .type "tuple", data := .seq its.toArray }) (r : Vals xs its) (hz : xs.length ≤ sizeLine) :
    Inv X pins σ (upd H a (.frz { cls := .type "tuple", data := .seq its.toArray } (.tup xs))) { s with heap := h', toks := t' } :=
  I.laid k hp (show ObjOk X.prog X.w _ _ _ (.frz _ (.tup xs)) from ⟨ha, hz, its, r, ⟨_, ha, rfl, _, rfl⟩⟩)
variable {es : List Expr} {t : TA} {pos : Pos}
def tTupZ (t : TA) : TE := fun σ H Q => t σ H fun xs H1 => xs.length ≤ sizeLine ∧ NewT H1 xs Q
theorem pe_tupZ {x1} (h : PA X es t) : PE X (.Tuple es x1 pos) (tTupZ t) := by
  refine ⟨fun pins s σ H Q I hq => ?_⟩
  refine wpAny_Tuple_spliced (thn (h.run pos pins s σ H _ I hq) fun us s1 ⟨xs, H1, I1, r, z, q⟩ => ⟨by rw [← r.length]; exact z, ?_⟩)
  exact ⟨.ref s1.heap.objs.size, _, laidZ (t' := s1.toks) I1 (fun b u e => Heap.get?_push_of_some _ e) (Nat.le_refl _) (Heap.get?_push_size _ rfl) r z, rfl, q _ _ (I1.hok.fresh (Nat.le_refl _)) ⟨rfl, rfl⟩⟩
def rCatZ (K : PySem.W.Frag) : R2 := fun x y H Q => ∃ a b xs ys, x = .ref a ∧ y = .ref b ∧ SqT K H a xs ∧ SqT K H b ys ∧ xs.length + ys.length ≤ sizeLine ∧
  (xs = [] → Q (.ref b) H) ∧ (xs ≠ [] → ys = [] → Q (.ref a) H) ∧ (xs ≠ [] → ys ≠ [] → NewT H (xs ++ ys) Q)
theorem op_catZ : OpR X (binaryOp .Add) (rCatZ X.K) := by
  intro pins s σ H x y v u Q I rx ry h
  obtain ⟨a, b, xs, ys, rfl, rfl, ha, hb, hz, q0, q1, q2⟩ := h
  cases rx
  cases ry
  obtain ⟨its, r1, p1, _⟩ := I.tuple ha
  obtain ⟨its2, r2, p2, _⟩ := I.tuple hb
  by_cases hx : xs = []
  · subst hx
    cases r1
    exact cat_tup0 p1 p2 ⟨.ref b, H, I, rfl, q0 rfl⟩
  · refine HT.cat_tup p1 p2 (fun z => hx (r1.nil_iff.mp z)) (fun z => ⟨.ref a, H, I, rfl, q1 hx (r2.nil_iff.mp z)⟩) (fun z => ?_) (by rw [← r1.length, ← r2.length]; exact hz)
    exact ⟨.ref s.heap.objs.size, _, laidZ (t' := s.toks) I (fun b ob q => Heap.get?_push_of_some _ q) (Nat.le_refl _) (Heap.get?_push_size _ rfl) (r1.append r2) (by rw [List.length_append]; exact hz), rfl, q2 hx (fun w => z (r2.nil_iff.mpr w)) _ _ (I.hok.fresh (Nat.le_refl _)) ⟨rfl, rfl⟩⟩
def rSlZ (K : PySem.W.Frag) : V → Option Int → Option Int → Hp → VK → Prop := fun x lo hi H Q => ∃ a xs, x = .ref a ∧ SqT K H a xs ∧
  (HT.sIx xs.length 0 lo = 0 ∧ HT.sIx xs.length xs.length hi = xs.length → Q (.ref a) H) ∧ (¬ (HT.sIx xs.length 0 lo = 0 ∧ HT.sIx xs.length xs.length hi = xs.length) → NewT H (cutV xs lo hi) Q)
theorem sl_tupZ : SlR X (rSlZ X.K) := by
  intro pins s σ H x v vl vu lo hi sl Q I rx hs pl pu h
  obtain ⟨a, xs, rfl, hx, q1, q2⟩ := h
  cases rx
  obtain ⟨its, r, ht, hz⟩ := I.tuple hx
  have hlen : its.toArray.size = xs.length := by rw [List.size_toArray]; exact r.length.symm
  refine ⟨"tuple", _, PyProof.Rows.slot_tuple_getitem.lookup, ht.typeIs, ?_⟩
  by_cases hw : HT.sIx xs.length 0 lo = 0 ∧ HT.sIx xs.length xs.length hi = xs.length
  · exact getItem_tuple_whole ht hs pl pu (by rw [hlen]; exact hw) ⟨.ref a, H, I, rfl, q1 hw⟩
  · refine HT.getItem_tuple_cut ht hs pl pu (by rw [hlen]; exact hw) ?_ (by rw [hlen]; exact hz)
    rw [hlen]
    exact ⟨.ref s.heap.objs.size, _, laidZ (t' := s.toks) I (fun b ob q => Heap.get?_push_of_some _ q) (Nat.le_refl _) (Heap.get?_push_size _ rfl) ((r.drop (HT.sIx xs.length 0 lo)).take (HT.sIx xs.length xs.length hi - HT.sIx xs.length 0 lo)) (Nat.le_trans (cutV_length xs lo hi) hz), rfl, q2 hw _ _ (I.hok.fresh (Nat.le_refl _)) ⟨rfl, rfl⟩⟩
def rTupOf (K : PySem.W.Frag) : List V → Hp → VK → Prop := fun xs H Q => ∃ p ys, xs = [.ref p] ∧ ((SqL K H p ys ∧ NewT H ys Q) ∨ (SqT K H p ys ∧ Q (.ref p) H))
theorem call_tuple_ofZ : CallR X (.type "tuple") (rTupOf X.K) := by
  intro pins s σ H xs us Q I r h
  obtain ⟨p, ys, rfl, h⟩ := h
  obtain ⟨u, rfl, rx⟩ := vals1 r
  cases rx
  rcases h with ⟨hq, q⟩ | ⟨hq, q⟩
  · obtain ⟨its, r', pl, hz⟩ := I.list hq
    have hlen := r'.length
    refine call_tuple_list pl.isList (fun h' kp => ?_) (by simp only [List.size_toArray] <;> omega)
    have I1 : Inv X pins σ H { s with heap := h' } := I.kept (t' := s.toks) kp
    have I2 : Inv X pins σ _ { s with heap := h'.push { cls := .type "tuple", data := .seq its.toArray } } :=
      laidZ (s := { s with heap := h' }) (a := h'.objs.size) (t' := s.toks) I1 (fun b o e => Heap.get?_push_of_some _ e) (Nat.le_refl _) (Heap.get?_push_size _ rfl) r' hz
    exact ⟨.ref h'.objs.size, _, I2, rfl, q _ _ (I1.hok.fresh (Nat.le_refl _)) ⟨rfl, rfl⟩⟩
  · obtain ⟨its, r', pl, hz⟩ := I.tuple hq
    exact call_tuple_same pl ⟨.ref p, H, I, rfl, q⟩
end
/-- a tuple some (two or more) times over -/
def rRepZ (K : PySem.W.Frag) : R2 := fun x y H Q => ∃ l k xs, x = .ref l ∧ y = .int k ∧ SqT K H l xs ∧ xs ≠ [] ∧ 2 ≤ k ∧ k ≤ 1000 ∧ xs.length ≤ 1000 ∧ NewT H (List.replicate k.toNat xs).flatten Q
theorem op_repZ {X : Cx} : OpR X (binaryOp .Mult) (rRepZ X.K) := by
  rintro pins s σ H _ _ v u Q I rx ry ⟨l, k, xs, rfl, rfl, hT, hne, hk2, hk, hx, q⟩
  obtain ⟨tk, rfl⟩ : ∃ tk, u = Value.int k tk := ry
  obtain rfl : v = .ref l := rx
  obtain ⟨its, rv, ⟨ob, ho, hcl, n, hda⟩, _⟩ := I.tuple hT
  obtain ⟨oc, od, dt, os⟩ := ob
  obtain rfl : oc = .type "tuple" := hcl
  obtain rfl : dt = .seq its.toArray n := hda
  have hl : its.length = xs.length := rv.length.symm
  have hpos : 0 < its.length := by
    rw [hl]
    exact List.length_pos_iff.mpr hne
  have hem : its.toArray.isEmpty = false := by
    rw [List.isEmpty_toArray]
    cases its with
    | nil => simp at hpos
    | cons _ _ => rfl
  have hsz : its.toArray.size = xs.length := by rw [List.size_toArray, hl]
  have hprod : ((xs.length : Nat) : Int) * k ≤ 1000000 := by
    have : ((xs.length : Nat) : Int) * k ≤ 1000 * 1000 := Int.mul_le_mul (by omega) hk (by omega) (by omega)
    omega
  have hflat : (List.replicate k.toNat its).flatten.length ≤ 1000000 := by
    rw [PyProof.Rows.lm_len_rep_flat, hl]
    have : k.toNat * xs.length ≤ 1000 * 1000 := Nat.mul_le_mul (by omega) hx
    omega
  have hline : (1000000 : Nat) ≤ sizeLine := by decide
  have t0 : (decide (k < -(2 ^ 63)) || decide (k ≥ 2 ^ 63)) = false := by simp; omega
  have t1 : (its.toArray.isEmpty || k == 1) = false := by rw [hem]; simp; omega
  have t2 : (decide (k ≤ 0) || its.toArray.isEmpty) = false := by rw [hem]; simp; omega
  have t4 : Builtin.Tuple.tupleTooMany (((its.toArray.size : Nat) : Int) * k) = false := by
    unfold Builtin.Tuple.tupleTooMany
    rw [hsz, sizeLine_eq]
    simp
    omega
  have end_ : wpAny (model X.prog X.w) X.A (call (.builtin "tuple.__mul__") [.ref l, .int k tk]) (EP X pins σ Q) X.xe s := by
    refine call_meets F.slot_tuple_mul ⟨_, ho, rfl⟩ F.entry_tuple_mul (F.args_tuple_mul_2 _ _) (tuple_mulW l its.toArray n od os k tk t0 t1 t2 (by rw [hsz]; omega) t4 (by rw [size_rep, List.size_toArray]; omega)) ⟨ho, ?_⟩
    rw [size_rep]
    exact ⟨.ref s.heap.objs.size, _, laidZ (t' := s.toks) I (fun b ob q => Heap.get?_push_of_some _ q) (Nat.le_refl _) (Heap.get?_push_size _ rfl) (rv.rep k.toNat) (by rw [PyProof.Rows.lm_len_rep_flat, ← hl, ← PyProof.Rows.lm_len_rep_flat]; omega), rfl, q _ _ (I.hok.fresh (Nat.le_refl _)) ⟨rfl, rfl⟩⟩
  exact wpAny_binaryOp_repeat_ref (T := "tuple") (U := "int") (by decide) ⟨_, ho, rfl⟩ (fun s' => typeIs_int s' k tk) noFill_tuple_mul F.fills_int_mul F.slot_int_rmul repeat_tuple F.slot_int_index.lookup
    (call_meets F.slot_int_rmul (typeIs_int s k tk) F.entry_int_rmul (F.args_int_rmul_2 _ _) (int_rmul_tuple k tk l its.toArray n od os) ⟨ho, rfl, ⟨_, ho, rfl⟩, end_⟩)

/-! ### operations on data -/
/-- bounds, put so that they aren't counted down one by one -/
def leN (i : Int) (b : Nat) : Bool := Nat.ble i.natAbs b
theorem leN_ok {i : Int} {b : Nat} (h : leN i b = true) : i.natAbs ≤ b := Nat.le_of_ble_eq_true h
theorem leN_of {i : Int} {b : Nat} (h : i.natAbs ≤ b) : leN i b = true := Nat.ble_eq_true_of_le h
def okMul (i j : Int) : Bool := leN i 18446744073709551615 || leN j 18446744073709551615
def okDv (j : Int) : Bool := Nat.ble 1 j.toNat && leN j 1267650600228229401496703205375
theorem okDv_ok {j : Int} (h : okDv j = true) : 0 < j ∧ j < 2 ^ 100 := by
  unfold okDv at h
  rw [Bool.and_eq_true] at h
  have h1 := Nat.le_of_ble_eq_true h.1
  have h2 := leN_ok h.2
  omega
theorem okDv_of {j : Int} (h0 : 0 < j) (h1 : j < 2 ^ 100) : okDv j = true := by
  unfold okDv
  rw [Bool.and_eq_true]
  exact ⟨Nat.ble_eq_true_of_le (by omega), leN_of (by omega)⟩
def dAdd : D → D → Option D
  | .int i, .int j => some (.int (i + j))
  | .tuple a, .tuple b => if a.length + b.length ≤ LIM then some (.tuple (a ++ b)) else none
  | .list a, .list b => if a.length + b.length ≤ LIM then some (.list (a ++ b)) else none
  | .str a, .str b => if a.length + b.length ≤ LIM then some (.str (a ++ b)) else none
  | _, _ => none
def dSub : D → D → Option D
  | .int i, .int j => some (.int (i - j))
  | _, _ => none
def dMul : D → D → Option D
  | .int i, .int j => if okMul i j = true then some (.int (i * j)) else none
  | .list a, .int k => if 0 ≤ k ∧ k ≤ 1000 ∧ a.length ≤ 100 then some (.list (List.replicate k.toNat a).flatten) else none
  | .tuple a, .int k => if a ≠ [] ∧ 2 ≤ k ∧ k ≤ 1000 ∧ a.length ≤ 100 then some (.tuple (List.replicate k.toNat a).flatten) else none
  | _, _ => none
def dDiv : D → D → Option D
  | .int i, .int j => if okDv j = true then some (.int (i / j)) else none
  | _, _ => none
def dMod : D → D → Option D
  | .int i, .int j => if 0 < j then some (.int (i % j)) else none
  | _, _ => none
def dPow : D → D → Option D
  | .int i, .int j => if 0 ≤ j ∧ j ≤ 1000 ∧ i.natAbs < 2 ^ 64 then some (.int (i ^ j.toNat)) else none
  | _, _ => none
def dCmp (p : Int → Int → Bool) : D → D → Option D
  | .int i, .int j => some (.bool (p i j))
  | _, _ => none
def dEq (neg : Bool) (d e : D) : Option D := if okD d = true ∧ okD e = true then some (.bool (if neg then !PyData.eqv d e else PyData.eqv d e)) else none
def dIn (neg : Bool) : D → D → Option D
  | x, .list xs => if okD x = true ∧ PyData.plainAll xs = true then some (.bool (if neg then !inD x xs else inD x xs)) else none
  | x, .tuple xs => if okD x = true ∧ PyData.plainAll xs = true then some (.bool (if neg then !inD x xs else inD x xs)) else none
  | _, _ => none
def dIsB (neg : Bool) : D → D → Option D
  | .bool a, .bool b => some (.bool (if neg then !decide (a = b) else decide (a = b)))
  | _, _ => none
def dIx : D → D → Option D
  | .list xs, .int i => atI xs i
  | .tuple xs, .int i => atI xs i
  | .str z, .int i => if z.length ≤ LIM then (atI z.cps.toList i).map fun c => .str ⟨#[c]⟩ else none
  | _, _ => none

section
variable {K : PySem.W.Frag} {X : Cx}
theorem OpD.orL {r r' : R2} {op : D → D → Option D} (h : OpD K r op) : OpD K (fun x y H Q => r x y H Q ∨ r' x y H Q) op := fun g B H t x y dx dy d Q a b c e f => .inl (h g B H t x y dx dy d Q a b c e f)
theorem HdL.rep {g : G} {B : Hp} {xs : List V} {ds : List D} (h : HdL K g B xs ds) : ∀ n : Nat, HdL K g B (List.replicate n xs).flatten (List.replicate n ds).flatten
  | 0 => .nil
  | n + 1 => by
    rw [List.replicate_succ, List.replicate_succ, List.flatten_cons, List.flatten_cons]
    exact h.app (HdL.rep h n)
theorem flat_len {α : Type} (xs : List α) : ∀ n : Nat, (List.replicate n xs).flatten.length = n * xs.length
  | 0 => by simp
  | n + 1 => by
    rw [List.replicate_succ, List.flatten_cons, List.length_append, flat_len xs n, Nat.succ_mul, Nat.add_comm]
def rAddA (K : PySem.W.Frag) : R2 := fun x y H Q => rI0 (fun i j => .int (i + j)) x y H Q ∨ rCatZ K x y H Q ∨ rCat x y H Q ∨ (∃ i j, x = .str i ∧ y = .str j ∧ i.length + j.length ≤ sizeLine ∧ Q (.str (i ++ j)) H)
theorem op_addA : OpR X (binaryOp .Add) (rAddA X.K) := op_add.or (op_catZ.or (op_cat.or op_add_str))
theorem d_add : OpD K (rAddA K) dAdd := by
  intro g B H t x y dx dy d Q bs hx hy e q
  unfold dAdd at e
  split at e
  · cases e; cases hx; cases hy
    exact .inl ⟨_, _, rfl, rfl, q _ _ _ (.refl bs) (.int _)⟩
  · rename_i a b
    split at e
    · rename_i hl
      cases e
      cases hx with
      | tup h1 h2 =>
        cases hy with
        | tup k1 k2 =>
          refine .inr (.inl ⟨_, _, _, _, rfl, rfl, bs.sub.sqt h1.sq, bs.sub.sqt k1.sq, by rw [h2.len, k2.len]; exact lim_le hl, fun e => ?_, fun _ e => ?_, fun _ _ p ob np od => ?_⟩)
          · refine q _ _ _ (.refl bs) (.tup k1 ?_)
            have := h2.app k2
            rw [e] at this
            exact this
          · refine q _ _ _ (.refl bs) (.tup h1 ?_)
            have := h2.app k2
            rw [e, List.append_nil] at this
            exact this
          · exact bs.tup (h2.app k2) np od q
    · cases e
  · rename_i a b
    split at e
    · rename_i hl
      cases e
      cases hx with
      | lst h1 h2 =>
        cases hy with
        | lst k1 k2 =>
          refine .inr (.inr (.inl ⟨_, _, _, _, rfl, rfl, bs.sub _ _ h1, bs.sub _ _ k1, by rw [h2.len, k2.len]; exact lim_le hl, fun p np => bs.lst (h2.app k2) np q⟩))
    · cases e
  · split at e
    · rename_i hl
      cases e; cases hx; cases hy
      exact .inr (.inr (.inr ⟨_, _, rfl, rfl, lim_le hl, q _ _ _ (.refl bs) (.str _)⟩))
    · cases e
  · cases e
theorem d_sub : OpD K (rI0 fun i j => .int (i - j)) dSub := by
  intro g B H t x y dx dy d Q bs hx hy e q
  unfold dSub at e
  split at e
  · cases e; cases hx; cases hy
    exact ⟨_, _, rfl, rfl, q _ _ _ (.refl bs) (.int _)⟩
  · cases e
def rMulA (K : PySem.W.Frag) : R2 := fun x y H Q => rI CMul (fun i j => .int (i * j)) x y H Q ∨ rRep x y H Q ∨ rRepZ K x y H Q
theorem op_mulA : OpR X (binaryOp .Mult) (rMulA X.K) := op_mul.or (op_rep.or op_repZ)
theorem okMul_c {i j : Int} (h : okMul i j = true) : CMul i j := by
  unfold okMul at h
  rw [Bool.or_eq_true] at h
  rcases h with h | h
  · have := leN_ok h
    exact .inl ⟨by omega, by omega⟩
  · have := leN_ok h
    exact .inr ⟨by omega, by omega⟩
theorem d_mul : OpD K (rMulA K) dMul := by
  intro g B H t x y dx dy d Q bs hx hy e q
  unfold dMul at e
  split at e
  · split at e
    · rename_i hm
      cases e; cases hx; cases hy
      exact .inl ⟨_, _, rfl, rfl, okMul_c hm, q _ _ _ (.refl bs) (.int _)⟩
    · cases e
  · rename_i a k
    split at e
    · rename_i hl
      cases e; cases hy
      cases hx with
      | lst h1 h2 =>
        have hn : k.toNat ≤ 1000 := by omega
        have hz : a.length * k.toNat ≤ 100 * 1000 := Nat.mul_le_mul hl.2.2 hn
        refine .inr (.inl ⟨_, _, _, rfl, rfl, bs.sub _ _ h1, by omega, by omega, ?_, fun p np => ?_⟩)
        · rw [h2.len]; exact lim_le hz
        · exact bs.lst (h2.rep _) np q
    · cases e
  · rename_i a k
    split at e
    · rename_i hl
      cases e; cases hy
      cases hx with
      | @tup _ xs _ h1 h2 =>
        refine .inr (.inr ⟨_, _, _, rfl, rfl, bs.sub.sqt h1.sq, ?_, hl.2.1, hl.2.2.1, by rw [h2.len]; omega, fun p ob np od => ?_⟩)
        · intro z
          have z2 := h2.len
          rw [z] at z2
          exact hl.1 (List.length_eq_zero_iff.mp z2.symm)
        · exact bs.tup (h2.rep _) np od q
    · cases e
  · cases e
theorem d_div : OpD K (rI CDivW fun i j => .int (i / j)) dDiv := by
  intro g B H t x y dx dy d Q bs hx hy e q
  unfold dDiv at e
  split at e
  · split at e
    · rename_i i j hm
      cases e; cases hx; cases hy
      exact ⟨_, _, rfl, rfl, wide_div (b := 100) (okDv_ok hm).1 (by have h1 := (okDv_ok hm).1; have h2 := (okDv_ok hm).2; omega) (by decide) (by decide), q _ _ _ (.refl bs) (.int _)⟩
    · cases e
  · cases e
theorem d_mod : OpD K (rI (fun _ j => 0 < j) fun i j => .int (i % j)) dMod := by
  intro g B H t x y dx dy d Q bs hx hy e q
  unfold dMod at e
  split at e
  · split at e
    · rename_i hm
      cases e; cases hx; cases hy
      exact ⟨_, _, rfl, rfl, hm, q _ _ _ (.refl bs) (.int _)⟩
    · cases e
  · cases e
theorem d_pow : OpD K (rI CPow fun i j => .int (i ^ j.toNat)) dPow := by
  intro g B H t x y dx dy d Q bs hx hy e q
  unfold dPow at e
  split at e
  · split at e
    · rename_i hm
      cases e; cases hx; cases hy
      exact ⟨_, _, rfl, rfl, ⟨hm.1, by omega, hm.2.2⟩, q _ _ _ (.refl bs) (.int _)⟩
    · cases e
  · cases e
theorem d_cmp {p : Int → Int → Bool} : OpD K (rI0 fun i j => .bl (p i j)) (dCmp p) := by
  intro g B H t x y dx dy d Q bs hx hy e q
  unfold dCmp at e
  split at e
  · cases e; cases hx; cases hy
    exact ⟨_, _, rfl, rfl, q _ _ _ (.refl bs) (.bl _)⟩
  · cases e
theorem d_eq {neg : Bool} : OpD K (rEqP K neg) (dEq neg) := by
  intro g B H t x y dx dy d Q bs hx hy e q
  unfold dEq at e
  split at e
  · rename_i hs
    cases e
    exact ⟨dx, dy, hx.dp bs.sub (okD_ok hs.1).1, hy.dp bs.sub (okD_ok hs.2).1, hs.1, hs.2, q _ _ _ (.refl bs) (.bl _)⟩
  · cases e
theorem d_in {neg : Bool} : OpD K (rInP K neg) (dIn neg) := by
  intro g B H t x y dx dy d Q bs hx hy e q
  unfold dIn at e
  split at e
  · rename_i xs
    split at e
    · rename_i hf
      cases e
      exact ⟨dx, xs, hx.dp bs.sub (okD_ok hf.1).1, .inl (hy.dp bs.sub (by simpa [PyData.plain] using hf.2)), hf.1, hf.2, q _ _ _ (.refl bs) (.bl _)⟩
    · cases e
  · rename_i xs
    split at e
    · rename_i hf
      cases e
      exact ⟨dx, xs, hx.dp bs.sub (okD_ok hf.1).1, .inr (hy.dp bs.sub (by simpa [PyData.plain] using hf.2)), hf.1, hf.2, q _ _ _ (.refl bs) (.bl _)⟩
    · cases e
  · cases e
theorem d_isB : OpD K rIsB (dIsB false) := by
  intro g B H t x y dx dy d Q bs hx hy e q
  unfold dIsB at e
  split at e
  · cases e; cases hx; cases hy
    exact ⟨_, _, rfl, rfl, q _ _ _ (.refl bs) (.bl _)⟩
  · cases e
theorem d_notB : OpD K rNotB (dIsB true) := by
  intro g B H t x y dx dy d Q bs hx hy e q
  unfold dIsB at e
  split at e
  · cases e; cases hx; cases hy
    exact ⟨_, _, rfl, rfl, q _ _ _ (.refl bs) (.bl _)⟩
  · cases e
theorem ixN_len {n m : Nat} {i : Int} (h : n = m) : ixN n i = ixN m i := by rw [h]
theorem HdL.atI {g : G} {B : Hp} {xs : List V} {ds : List D} {i : Int} {d : D} (h : HdL K g B xs ds) (e : L2.atI ds i = some d) : ∃ v, L2.atI xs i = some v ∧ Hd K g B v d := by
  unfold L2.atI at *
  rw [h.len]
  cases q : ixN ds.length i with
  | none => rw [q] at e; cases e
  | some j =>
    rw [q] at e
    exact h.get e
theorem d_ix : OpD K (rIx K) dIx := by
  intro g B H t x y dx dy d Q bs hx hy e q
  unfold dIx at e
  split at e
  · cases hy
    cases hx with
    | lst h1 h2 =>
      obtain ⟨v, e1, e2⟩ := h2.atI e
      exact .inl ⟨_, _, _, v, rfl, rfl, SqL.of (bs.sub _ _ h1), e1, q _ _ _ (.refl bs) e2⟩
  · cases hy
    cases hx with
    | tup h1 h2 =>
      obtain ⟨v, e1, e2⟩ := h2.atI e
      exact .inr (.inl ⟨_, _, _, v, rfl, rfl, bs.sub.sqt h1.sq, e1, q _ _ _ (.refl bs) e2⟩)
  · split at e
    · rename_i z i hl
      cases hy; cases hx
      cases ec : L2.atI z.cps.toList i with
      | none => rw [ec] at e; cases e
      | some c =>
        rw [ec] at e
        cases e
        exact .inr (.inr ⟨_, _, c, rfl, rfl, lim_le hl, ec, q _ _ _ (.refl bs) (.str _)⟩)
    · cases e
  · cases e

variable {a b : Expr} {fa fb : SE} {pos : Pos}
theorem ev_add (ha : EV X a fa) (hb : EV X b fb) : EV X (.BinOp a .Add b pos) (cBin dAdd fa fb) := ev_bin op_addA d_add ha hb
theorem ev_sub (ha : EV X a fa) (hb : EV X b fb) : EV X (.BinOp a .Sub b pos) (cBin dSub fa fb) := ev_bin op_sub d_sub ha hb
theorem ev_mul (ha : EV X a fa) (hb : EV X b fb) : EV X (.BinOp a .Mult b pos) (cBin dMul fa fb) := ev_bin op_mulA d_mul ha hb
theorem ev_div (ha : EV X a fa) (hb : EV X b fb) : EV X (.BinOp a .FloorDiv b pos) (cBin dDiv fa fb) := ev_bin op_fdivW d_div ha hb
theorem ev_mod (ha : EV X a fa) (hb : EV X b fb) : EV X (.BinOp a .Mod b pos) (cBin dMod fa fb) := ev_bin op_mod d_mod ha hb
theorem ev_pow (ha : EV X a fa) (hb : EV X b fb) : EV X (.BinOp a .Pow b pos) (cBin dPow fa fb) := ev_bin op_pow d_pow ha hb
theorem ev_ix (ha : EV X a fa) (hb : EV X b fb) (hs : PlainIx b := by intro _ _; rfl) : EV X (.Subscript a b pos) (cBin dIx fa fb) :=
  ⟨pe_weak (pe_ix ix_seq ha.pe hb.pe hs) fun _ _ _ h => tbin d_ix h⟩

/-! ### tests -/
abbrev ST := Env → T → Option (Bool × T)
def tDT (K : PySem.W.Frag) (f : ST) : TT := fun (σ : Sg) H Q => ∃ g B env t c t', Rep K g B H σ env t ∧ f env t = some (c, t') ∧
  ∀ B' H', Step g B H t' B' H' → Q c H'
structure ET (X : Cx) (e : Expr) (f : ST) : Prop where
  pt : PT X e (tDT X.K f)
theorem pt_weak {e : Expr} {t t' : TT} (h : PT X e t) (w : ∀ σ H Q, t' σ H Q → t σ H Q) : PT X e t' :=
  ⟨fun pins s σ H Q I q => h.run pins s σ H Q I (w σ H Q q)⟩
def cTest (f : SE) : ST := fun e t => match f e t with
  | some (.bool b, t') => some (b, t')
  | _ => none
theorem ttest {f : SE} {te : TE} (hw : ∀ (σ : Sg) H Q, tD K f σ H Q → te σ H Q) {σ : Sg} {H : Hp} {Q : Bool → Hp → Prop} (h : tDT K (cTest f) σ H Q) : te σ H fun x H1 => ∃ c, x = .bl c ∧ Q c H1 := by
  obtain ⟨g, B, env, t, c, t', r, e, q⟩ := h
  unfold cTest at e
  split at e
  · rename_i b t1 e1
    cases e
    exact hw _ _ _ ⟨g, B, env, t, _, _, r, e1, fun v B1 H1 s1 h1 => by cases h1; exact ⟨c, rfl, q B1 H1 s1⟩⟩
  · cases e
/-- a comparison: how as a value, how as a test -/
structure EC (X : Cx) (op : CmpOp) (r : R2) (f : D → D → Option D) : Prop where
  op : OpR X (compareOp op) r
  sem : OpD X.K r f
theorem ec_lt : EC X .Lt (rI0 fun i j => .bl (decide (i < j))) (dCmp fun i j => decide (i < j)) := ⟨op_lt, d_cmp⟩
theorem ec_le : EC X .LtE (rI0 fun i j => .bl (decide (i ≤ j))) (dCmp fun i j => decide (i ≤ j)) := ⟨op_le, d_cmp⟩
theorem ec_gt : EC X .Gt (rI0 fun i j => .bl (decide (j < i))) (dCmp fun i j => decide (j < i)) := ⟨op_gt, d_cmp⟩
theorem ec_ge : EC X .GtE (rI0 fun i j => .bl (decide (j ≤ i))) (dCmp fun i j => decide (j ≤ i)) := ⟨op_ge, d_cmp⟩
theorem ec_eq (hu : X.A.units + 100 < cLine) : EC X .Eq (rEqP X.K false) (dEq false) := ⟨op_eqP (by omega), d_eq⟩
theorem ec_ne (hu : X.A.units + 100 < cLine) : EC X .NotEq (rEqP X.K true) (dEq true) := ⟨op_neP (by omega), d_eq⟩
theorem ec_in (hu : X.A.units + 100 < cLine) : EC X .In (rInP X.K false) (dIn false) := ⟨op_inP hu, d_in⟩
theorem ec_notin (hu : X.A.units + 100 < cLine) : EC X .NotIn (rInP X.K true) (dIn true) := ⟨op_notInP hu, d_in⟩
theorem units_of {k : Nat} {A : Around} (r : Room k A) : A.units + 100 < cLine := by have := r.un; omega
theorem ec_is : EC X .Is rIsB (dIsB false) := ⟨op_isBl, d_isB⟩
theorem ec_isnot : EC X .IsNot rNotB (dIsB true) := ⟨op_notBl, d_notB⟩
theorem ev_cmp {op : CmpOp} {r : R2} {f : D → D → Option D} (c : EC X op r f) (ha : EV X a fa) (hb : EV X b fb) (hm : behindInMarks op b = false := by first | exact nomark _ (by decide) (by decide) | rfl) :
    EV X (.Compare a [op] [b] pos) (cBin f fa fb) := ⟨pe_weak (pe_cmpR c.op ha.pe hb.pe hm) fun _ _ _ h => tbin c.sem h⟩
theorem et_cmp {op : CmpOp} {r : R2} {f : D → D → Option D} (c : EC X op r f) (ha : EV X a fa) (hb : EV X b fb) (hm : behindInMarks op b = false := by first | exact nomark _ (by decide) (by decide) | rfl) :
    ET X (.Compare a [op] [b] pos) (cTest (cBin f fa fb)) := ⟨pt_weak (pt_cmpR c.op ha.pe hb.pe hm) fun _ _ _ h => ttest (te := tOp r (tD X.K fa) (tD X.K fb)) (fun _ _ _ h => tbin c.sem h) h⟩
theorem et_val {f : SE} (h : EV X a f) (he : ∀ whole, isTrue a X.env whole = (do let v ← whole; standAt a.pos; holding [v] (truthy v)) := by intro _; rfl) : ET X a (cTest f) :=
  ⟨pt_weak (pt_val h.pe he) fun _ _ _ h => ttest (fun _ _ _ h => h) h⟩
def cNot (f : ST) : ST := fun e t => match f e t with
  | some (b, t') => some (!b, t')
  | none => none
theorem tnot {f : ST} {σ : Sg} {H : Hp} {Q : Bool → Hp → Prop} (h : tDT K (cNot f) σ H Q) : tNot (tDT K f) σ H Q := by
  obtain ⟨g, B, env, t, c, t', r, e, q⟩ := h
  unfold cNot at e
  split at e
  · rename_i b t1 e1
    cases e
    exact ⟨g, B, env, t, _, _, r, e1, q⟩
  · cases e
theorem et_not {f : ST} (h : ET X a f) : ET X (.UnaryOp .Not a pos) (cNot f) := ⟨pt_weak (pt_not h.pt) fun _ _ _ h => tnot h⟩
def cAndT (f h : ST) : ST := fun e t => match f e t with
  | some (true, t') => h e t'
  | some (false, t') => some (false, t')
  | none => none
def cOrT (f h : ST) : ST := fun e t => match f e t with
  | some (true, t') => some (true, t')
  | some (false, t') => h e t'
  | none => none
structure EW (X : Cx) (e : Expr) (f : ST) : Prop where
  pw : PW X e (tDT X.K f)
theorem pw_weak {e : Expr} {t t' : TT} (h : PW X e t) (w : ∀ σ H Q, t' σ H Q → t σ H Q) : PW X e t' :=
  ⟨fun wh pins s σ H Q I q => h.run wh pins s σ H Q I (w σ H Q q)⟩
theorem EW.et {e : Expr} {f : ST} (h : EW X e f) : ET X e f := ⟨h.pw.pt⟩
variable {ft fu : ST} {rest : List Expr}
theorem tand {σ : Sg} {H : Hp} {Q : Bool → Hp → Prop} (h : tDT K (cAndT ft fu) σ H Q) : tAnd (tDT K ft) (tDT K fu) σ H Q := by
  obtain ⟨g, B, env, t, c, t', r, e, q⟩ := h
  unfold cAndT at e
  split at e
  · rename_i t1 e1
    refine ⟨g, B, env, t, _, _, r, e1, fun B1 H1 s1 => ?_⟩
    refine iteT ?_
    exact ⟨g, B1, env, t1, c, t', r.step s1, e, fun B2 H2 s2 => q B2 H2 (s1.trans r.bs s2)⟩
  · rename_i t1 e1
    cases e
    refine ⟨g, B, env, t, _, _, r, e1, fun B1 H1 s1 => ?_⟩
    refine iteF ?_
    exact q B1 H1 s1
  · cases e
theorem tor {σ : Sg} {H : Hp} {Q : Bool → Hp → Prop} (h : tDT K (cOrT ft fu) σ H Q) : tOr (tDT K ft) (tDT K fu) σ H Q := by
  obtain ⟨g, B, env, t, c, t', r, e, q⟩ := h
  unfold cOrT at e
  split at e
  · rename_i t1 e1
    cases e
    refine ⟨g, B, env, t, _, _, r, e1, fun B1 H1 s1 => ?_⟩
    refine iteT ?_
    exact q B1 H1 s1
  · rename_i t1 e1
    refine ⟨g, B, env, t, _, _, r, e1, fun B1 H1 s1 => ?_⟩
    refine iteF ?_
    exact ⟨g, B1, env, t1, c, t', r.step s1, e, fun B2 H2 s2 => q B2 H2 (s1.trans r.bs s2)⟩
  · cases e
theorem ew_and1 (ha : ET X a ft) : EW X (.BoolOp .And [a] pos) ft := ⟨pw_and1 ha.pt⟩
theorem ew_or1 (ha : ET X a ft) : EW X (.BoolOp .Or [a] pos) ft := ⟨pw_or1 ha.pt⟩
theorem ew_and (ha : ET X a ft) (hb : EW X (.BoolOp .And (b :: rest) pos) fu) : EW X (.BoolOp .And (a :: b :: rest) pos) (cAndT ft fu) := ⟨pw_weak (pw_and ha.pt hb.pw) fun _ _ _ h => tand h⟩
theorem ew_or (ha : ET X a ft) (hb : EW X (.BoolOp .Or (b :: rest) pos) fu) : EW X (.BoolOp .Or (a :: b :: rest) pos) (cOrT ft fu) := ⟨pw_weak (pw_or ha.pt hb.pw) fun _ _ _ h => tor h⟩

/-! ### and, or, not as values (bools) -/
def cAnd (f h : SE) : SE := fun e t => match f e t with
  | some (.bool true, t') => h e t'
  | some (.bool false, t') => some (.bool false, t')
  | _ => none
def cOr (f h : SE) : SE := fun e t => match f e t with
  | some (.bool true, t') => some (.bool true, t')
  | some (.bool false, t') => h e t'
  | _ => none
theorem tandV {σ : Sg} {H : Hp} {Q : VK} (h : tD K (cAnd fa fb) σ H Q) : tAndV (tD K fa) (tD K fb) σ H Q := by
  obtain ⟨g, B, env, t, c, t', r, e, q⟩ := h
  unfold cAnd at e
  split at e
  · rename_i t1 e1
    refine ⟨g, B, env, t, _, _, r, e1, fun v B1 H1 s1 h1 => ?_⟩
    cases h1
    refine ⟨true, rfl, ?_⟩
    refine iteT ?_
    exact ⟨g, B1, env, t1, c, t', r.step s1, e, fun w B2 H2 s2 => q w B2 H2 (s1.trans r.bs s2)⟩
  · rename_i t1 e1
    cases e
    refine ⟨g, B, env, t, _, _, r, e1, fun v B1 H1 s1 h1 => ?_⟩
    cases h1
    refine ⟨false, rfl, ?_⟩
    refine iteF ?_
    exact q _ B1 H1 s1 (.bl _)
  · cases e
theorem torV {σ : Sg} {H : Hp} {Q : VK} (h : tD K (cOr fa fb) σ H Q) : tOrV (tD K fa) (tD K fb) σ H Q := by
  obtain ⟨g, B, env, t, c, t', r, e, q⟩ := h
  unfold cOr at e
  split at e
  · rename_i t1 e1
    cases e
    refine ⟨g, B, env, t, _, _, r, e1, fun v B1 H1 s1 h1 => ?_⟩
    cases h1
    refine ⟨true, rfl, ?_⟩
    refine iteT ?_
    exact q _ B1 H1 s1 (.bl _)
  · rename_i t1 e1
    refine ⟨g, B, env, t, _, _, r, e1, fun v B1 H1 s1 h1 => ?_⟩
    cases h1
    refine ⟨false, rfl, ?_⟩
    refine iteF ?_
    exact ⟨g, B1, env, t1, c, t', r.step s1, e, fun w B2 H2 s2 => q w B2 H2 (s1.trans r.bs s2)⟩
  · cases e
theorem ev_one {op} (h : EV X a fa) : EV X (.BoolOp op [a] pos) fa := ⟨pe_one h.pe⟩
theorem ev_and (ha : EV X a fa) (hb : EV X (.BoolOp .And (b :: rest) pos) fb) : EV X (.BoolOp .And (a :: b :: rest) pos) (cAnd fa fb) := ⟨pe_weak (pe_and ha.pe hb.pe) fun _ _ _ h => tandV h⟩
theorem ev_or (ha : EV X a fa) (hb : EV X (.BoolOp .Or (b :: rest) pos) fb) : EV X (.BoolOp .Or (a :: b :: rest) pos) (cOr fa fb) := ⟨pe_weak (pe_or ha.pe hb.pe) fun _ _ _ h => torV h⟩
def cNotV (f : SE) : SE := fun e t => match f e t with
  | some (.bool b, t') => some (.bool (!b), t')
  | _ => none
theorem ev_not (ha : EV X a fa) : EV X (.UnaryOp .Not a pos) (cNotV fa) := ⟨pe_weak (pe_not ha.pe) fun σ H Q h => by
  obtain ⟨g, B, env, t, c, t', r, e, q⟩ := h
  unfold cNotV at e
  split at e
  · rename_i b1 t1 e1
    cases e
    exact ⟨g, B, env, t, _, _, r, e1, fun v B1 H1 s1 h1 => by cases h1; exact ⟨b1, rfl, q _ B1 H1 s1 (.bl _)⟩⟩
  · cases e⟩
def cNeg (f : SE) : SE := fun e t => match f e t with
  | some (.int i, t') => some (.int (-i), t')
  | _ => none
theorem ev_neg (ha : EV X a fa) : EV X (.UnaryOp .USub a pos) (cNeg fa) := ⟨pe_weak (pe_un un_neg ha.pe) fun σ H Q h => by
  obtain ⟨g, B, env, t, c, t', r, e, q⟩ := h
  unfold cNeg at e
  split at e
  · rename_i b1 t1 e1
    cases e
    exact ⟨g, B, env, t, _, _, r, e1, fun v B1 H1 s1 h1 => by cases h1; exact ⟨b1, rfl, q _ B1 H1 s1 (.int _)⟩⟩
  · cases e⟩
/-- a if t else b -/
def cIf (c : ST) (f h : SE) : SE := fun e t => match c e t with
  | some (true, t') => f e t'
  | some (false, t') => h e t'
  | none => none
theorem ev_if {c : Expr} (hc : ET X c ft) (ha : EV X a fa) (hb : EV X b fb) : EV X (.IfExp c a b pos) (cIf ft fa fb) := ⟨pe_weak (pe_ifExp hc.pt ha.pe hb.pe) fun σ H Q h => by
  obtain ⟨g, B, env, t, d, t', r, e, q⟩ := h
  unfold cIf at e
  split at e
  · rename_i t1 e1
    refine ⟨g, B, env, t, _, _, r, e1, fun B1 H1 s1 => ?_⟩
    refine iteT ?_
    exact ⟨g, B1, env, t1, d, t', r.step s1, e, fun w B2 H2 s2 => q w B2 H2 (s1.trans r.bs s2)⟩
  · rename_i t1 e1
    refine ⟨g, B, env, t, _, _, r, e1, fun B1 H1 s1 => ?_⟩
    refine iteF ?_
    exact ⟨g, B1, env, t1, d, t', r.step s1, e, fun w B2 H2 s2 => q w B2 H2 (s1.trans r.bs s2)⟩
  · cases e⟩
/-- is None -/
def isN : D → Bool
  | .none => true
  | _ => false
def cIsN (neg : Bool) (f : SE) : SE := fun e t => match f e t with
  | some (d, t') => some (.bool (if neg then !isN d else isN d), t')
  | none => none
theorem Hd.isN {g : G} {B : Hp} {v : V} {d : D} (h : Hd K g B v d) : decide (v = .non) = PP.isN d := by
  cases h <;> simp [PP.isN]
theorem tisN {σ : Sg} {H : Hp} {Q : VK} (h : tD K (cIsN false fa) σ H Q) : tIsN (tD K fa) σ H Q := by
  obtain ⟨g, B, env, t, d, t', r, e, q⟩ := h
  unfold cIsN at e
  split at e
  · rename_i d1 t1 e1
    cases e
    exact ⟨g, B, env, t, _, _, r, e1, fun v B1 H1 s1 h1 => by show Q (.bl (decide (v = .non))) H1; rw [h1.isN]; exact q _ B1 H1 s1 (.bl _)⟩
  · cases e
theorem tnotN {σ : Sg} {H : Hp} {Q : VK} (h : tD K (cIsN true fa) σ H Q) : tNotN (tD K fa) σ H Q := by
  obtain ⟨g, B, env, t, d, t', r, e, q⟩ := h
  unfold cIsN at e
  split at e
  · rename_i d1 t1 e1
    cases e
    exact ⟨g, B, env, t, _, _, r, e1, fun v B1 H1 s1 h1 => by show Q (.bl (!decide (v = .non))) H1; rw [h1.isN]; exact q _ B1 H1 s1 (.bl _)⟩
  · cases e
theorem ev_isN {j pos'} (ha : EV X a fa) : EV X (.Compare a [.Is] [.Constant .none j pos'] pos) (cIsN false fa) := ⟨pe_weak (pe_cmp (pc_isN ha.pe)) fun _ _ _ h => tisN h⟩
theorem ev_notN {j pos'} (ha : EV X a fa) : EV X (.Compare a [.IsNot] [.Constant .none j pos'] pos) (cIsN true fa) := ⟨pe_weak (pe_cmp (pc_notN ha.pe)) fun _ _ _ h => tnotN h⟩
theorem et_isN {j pos'} (ha : EV X a fa) : ET X (.Compare a [.Is] [.Constant .none j pos'] pos) (cTest (cIsN false fa)) := ⟨pt_weak (pt_cmp (pc_isN ha.pe)) fun _ _ _ h => ttest (te := tIsN (tD X.K fa)) (fun _ _ _ h => tisN h) h⟩
theorem et_notN {j pos'} (ha : EV X a fa) : ET X (.Compare a [.IsNot] [.Constant .none j pos'] pos) (cTest (cIsN true fa)) := ⟨pt_weak (pt_cmp (pc_notN ha.pe)) fun _ _ _ h => ttest (te := tNotN (tD X.K fa)) (fun _ _ _ h => tnotN h) h⟩

/-! ### argument lists, displays, calls -/
abbrev SA := Env → T → Option (List D × T)
def tDA (K : PySem.W.Frag) (f : SA) : TA := fun (σ : Sg) H Q => ∃ g B env t ds t', Rep K g B H σ env t ∧ f env t = some (ds, t') ∧
  ∀ vs B' H', Step g B H t' B' H' → HdL K g B' vs ds → Q vs H'
structure EA (X : Cx) (es : List Expr) (f : SA) : Prop where
  pa : PA X es (tDA X.K f)
theorem pa_weak {es : List Expr} {t t' : TA} (h : PA X es t) (w : ∀ σ H Q, t' σ H Q → t σ H Q) : PA X es t' :=
  ⟨fun pos pins s σ H Q I q => h.run pos pins s σ H Q I (w σ H Q q)⟩
def aNil : SA := fun _ t => some ([], t)
def aCons (f : SE) (h : SA) : SA := fun e t => match f e t with
  | some (x, t1) => match h e t1 with
    | some (xs, t2) => some (x :: xs, t2)
    | none => none
  | none => none
theorem ea_nil : EA X [] aNil := ⟨pa_weak pa_nil fun σ H Q h => by
  obtain ⟨g, B, env, t, d, t', r, e, q⟩ := h
  cases e
  exact q [] B H (.refl r.bs) .nil⟩
theorem tcons {fs : SA} {σ : Sg} {H : Hp} {Q : List V → Hp → Prop} (h : tDA K (aCons fa fs) σ H Q) : tCons (tD K fa) (tDA K fs) σ H Q := by
  obtain ⟨g, B, env, t, d, t', r, e, q⟩ := h
  unfold aCons at e
  split at e
  · rename_i x t1 e1
    split at e
    · rename_i xs t2 e2
      cases e
      refine ⟨g, B, env, t, _, _, r, e1, fun v B1 H1 s1 h1 => ?_⟩
      refine ⟨g, B1, env, t1, _, _, r.step s1, e2, fun vs B2 H2 s2 h2 => ?_⟩
      exact q _ B2 H2 (s1.trans r.bs s2) (.cons (h1.mono s2.b1) h2)
    · cases e
  · cases e
theorem ea_cons {es : List Expr} {fs : SA} (ha : EV X a fa) (hr : EA X es fs) (hs : starEach (a :: es) X.env = (false, eval a X.env) :: starEach es X.env := by rfl) : EA X (a :: es) (aCons fa fs) :=
  ⟨pa_weak (pa_cons ha.pe hr.pa hs) fun _ _ _ h => tcons h⟩
def cTup (f : SA) : SE := fun e t => match f e t with
  | some (xs, t') => if xs.length ≤ LIM then some (.tuple xs, t') else none
  | none => none
def cLst (f : SA) : SE := fun e t => match f e t with
  | some (xs, t') => if xs.length ≤ LIM then some (.list xs, t') else none
  | none => none
theorem ttup {f : SA} {σ : Sg} {H : Hp} {Q : VK} (h : tD K (cTup f) σ H Q) : tTupZ (tDA K f) σ H Q := by
  obtain ⟨g, B, env, t, d, t', r, e, q⟩ := h
  unfold cTup at e
  split at e
  · rename_i xs t1 e1
    split at e
    · rename_i hl
      cases e
      refine ⟨g, B, env, t, _, _, r, e1, fun vs B1 H1 s1 h1 => ⟨by rw [h1.len]; exact lim_le hl, fun p ob np od => ?_⟩⟩
      exact s1.bs.tup h1 np od fun v B2 H2 s2 h2 => q v B2 H2 (s1.trans r.bs s2) h2
    · cases e
  · cases e
theorem tlst {f : SA} {σ : Sg} {H : Hp} {Q : VK} (h : tD K (cLst f) σ H Q) : tLst (tDA K f) σ H Q := by
  obtain ⟨g, B, env, t, d, t', r, e, q⟩ := h
  unfold cLst at e
  split at e
  · rename_i xs t1 e1
    split at e
    · rename_i hl
      cases e
      refine ⟨g, B, env, t, _, _, r, e1, fun vs B1 H1 s1 h1 => ⟨by rw [h1.len]; exact lim_le hl, fun p np => ?_⟩⟩
      have s2 := Step.new (o := .lst vs) s1.bs np
      exact q _ _ _ (s1.trans r.bs s2) (.lst upd_same (h1.mono s2.b1))
    · cases e
  · cases e
theorem ev_tup {es : List Expr} {f : SA} {x1} (h : EA X es f) : EV X (.Tuple es x1 pos) (cTup f) := ⟨pe_weak (pe_tupZ h.pa) fun _ _ _ h => ttup h⟩
theorem ev_lst {es : List Expr} {f : SA} (h : EA X es f) : EV X (.List es pos) (cLst f) := ⟨pe_weak (pe_lst h.pa) fun _ _ _ h => tlst h⟩

abbrev SF := List D → T → Option (D × T)
def spF (K : PySem.W.Frag) (n : Nat) (φ : SF) : Sp := fun vs H Q E => ∃ g B ds t d t', vs.length = n ∧ Base g B H t ∧ HdL K g B vs ds ∧ φ ds t = some (d, t') ∧
  ∀ v B' H', Step g B H t' B' H' → Hd K g B' v d → Q v H'
structure FnAt (P : Program) (w : World) (K : PySem.W.Frag) (mg : Str → Option Value) (base : Heap) (k : Nat) (x : Str) (n : Nat) (φ : SF) : Prop where
  ex : ∃ f fd ps, FnOk P w K mg base CX0 k f fd ps (spF K n φ) ∧ mg x = some (.ref f) ∧ PySem.W.keepIn K (.ref f) = true ∧ Binds K fd ps []
theorem FnAt.mono {P w K mg base} {j k : Nat} {x n φ} (h : FnAt P w K mg base j x n φ) (l : j ≤ k) : FnAt P w K mg base k x n φ := by
  obtain ⟨f, fd, ps, h1, h2⟩ := h.ex
  exact ⟨f, fd, ps, h1.mono l, h2⟩
def cCall (φ : SF) (f : SA) : SE := fun e t => match f e t with
  | some (xs, t') => φ xs t'
  | none => none
theorem tcall {n : Nat} {φ : SF} {f : SA} (hn : ∀ e t xs t', f e t = some (xs, t') → xs.length = n) {σ : Sg} {H : Hp} {Q : VK} {E : XK} (h : tD K (cCall φ f) σ H Q) : tCall (spF K n φ) [] E (tDA K f) σ H Q := by
  obtain ⟨g, B, env, t, d, t', r, e, q⟩ := h
  unfold cCall at e
  split at e
  · rename_i xs t1 e1
    refine ⟨g, B, env, t, _, _, r, e1, fun vs B1 H1 s1 h1 => ?_⟩
    refine ⟨g, B1, xs, t1, d, t', ?_, s1.bs, by rw [List.append_nil]; exact h1, e, fun v B2 H2 s2 => q v B2 H2 (s1.trans r.bs s2)⟩
    rw [List.append_nil, h1.len]
    exact hn _ _ _ _ e1
  · cases e
theorem aNil_len : ∀ (e : Env) (t : T) (xs : List D) (t' : T), aNil e t = some (xs, t') → xs.length = 0 := fun e t xs t' h => by cases h; rfl
theorem aCons_len {f : SE} {h : SA} {n : Nat} (hn : ∀ (e : Env) (t : T) (xs : List D) (t' : T), h e t = some (xs, t') → xs.length = n) : ∀ (e : Env) (t : T) (xs : List D) (t' : T), aCons f h e t = some (xs, t') → xs.length = n + 1 := fun e t xs t' q => by
  unfold aCons at q
  split at q
  · split at q
    · rename_i e2
      cases q
      rw [List.length_cons, hn _ _ _ _ e2]
    · cases q
  · cases q
theorem ev_call {k n : Nat} {x : Str} {φ : SF} {es : List Expr} {f : SA} {p : Pos} (F : FnAt X.prog X.w X.K X.mg X.base k x n φ) (hr : Room k X.A) (ha : EA X (a :: es) f)
    (hn : ∀ (e : Env) (t : T) (xs : List D) (t' : T), f e t = some (xs, t') → xs.length = n) (hg : Gl X x := by rfl) (hdb : (x == ("__debug__" : Str)) = false := by decide)
    (he : starEach (a :: es) X.env = (false, eval a X.env) :: starEach es X.env := by rfl) (hpl : (backTo pos (starEach es X.env)).any (·.1) = false := by rfl) :
    EV X (.Call (.Name x p) (a :: es) [] pos) (cCall φ f) := by
  obtain ⟨fa', fd, ps, h1, h2, h3, h4⟩ := F.ex
  exact ⟨pe_weak (pe_call h1 hr hg h2 h3 h4 .nil (E := E0) pass0 ha.pa hdb he hpl) fun σ H Q h => tcall hn h⟩
theorem ev_call0 {k : Nat} {x : Str} {φ : SF} {p : Pos} (F : FnAt X.prog X.w X.K X.mg X.base k x 0 φ) (hr : Room k X.A) (hg : Gl X x := by rfl) (hdb : (x == ("__debug__" : Str)) = false := by decide) :
    EV X (.Call (.Name x p) [] [] pos) (cCall φ aNil) := by
  obtain ⟨fa', fd, ps, h1, h2, h3, h4⟩ := F.ex
  refine ⟨pe_weak (pe_call0 h1 hr hg h2 h3 h4 .nil (E := E0) pass0 hdb) fun σ H Q h => ?_⟩
  obtain ⟨g, B, env, t, d, t', r, e, q⟩ := h
  exact ⟨g, B, [], t, d, t', rfl, r.bs, .nil, e, q⟩
end
end PP

namespace PP
open PySem PySem.Spec PyProof.Rows L2

structure FG where
  H0 : Hp
  B0 : Hp
inductive OwnAt (K : PySem.W.Frag) (g : G) (B H : Hp) (p : Addr) : D → Prop
  | lst {xs : List V} {ds : List D} : H p = some (.lst xs) → HdL K g B xs ds → OwnAt K g B H p (.list ds)
  | dct {kvs : List (Key × V)} {ds : List D} : H p = some (.dK kvs) → HdL K g B (kvs.map (·.2)) ds → OwnAt K g B H p (.dict (zipK (kvs.map (·.1)) ds))
  | dx {ob : Obj} {ks : List NK} {dk dv : List D} : H p = some (obO p ob) → DxP p ob ks → HdL K g B (ks.map fun x => .ref x.2.1) dk → HdL K g B (ks.map (·.2.2)) dv → dk.map nkD = ks.map (fun x => some x.1) →
    OwnAt K g B H p (.dict (mkP :: dk.zip dv))
structure RepS (K : PySem.W.Frag) (g : G) (fg : FG) (o : List Nat) (B H : Hp) (σ : Sg) (env : Env) (t : T) : Prop where
  bs : Base g B H t
  len : env.length = σ.length
  vars : ∀ (i : Nat) (d : D), i ∉ o → env[i]? = some (some d) → ∃ v, σ[i]? = some (some v) ∧ Hd K g B v d
  own : ∀ (i : Nat) (d : D), i ∈ o → env[i]? = some (some d) → ∃ p, σ[i]? = some (some (.ref p)) ∧ p ≠ g.ta ∧ B p = none ∧ fg.H0 p = none ∧ OwnAt K g B H p d
  sep : ∀ (i j : Nat) (p : Addr) (d e : D), i ∈ o → j ∈ o → i ≠ j → env[i]? = some (some d) → env[j]? = some (some e) → σ[i]? = some (some (.ref p)) → σ[j]? ≠ some (some (.ref p))
  keep0 : ∀ b x, b ≠ g.ta → fg.H0 b = some x → H b = some x
  b0 : Sub fg.B0 B
  sep0 : ∀ b, fg.H0 b ≠ none → fg.B0 b = none → B b = none
  t0 : fg.H0 g.ta ≠ none
  tb0 : fg.B0 g.ta = none

section
variable {K : PySem.W.Frag} {g : G} {fg : FG} {o o' : List Nat} {B B' H H' : Hp} {σ : Sg} {env : Env} {t t' : T}
theorem OwnAt.live {p : Addr} {d : D} (h : OwnAt K g B H p d) : H p ≠ none := by
  cases h with
  | lst h _ => rw [h]; exact fun z => nomatch z
  | dct h _ => rw [h]; exact fun z => nomatch z
  | dx h _ _ _ _ => rw [h]; exact fun z => nomatch z
theorem OwnAt.move {p : Addr} {d : D} (h : OwnAt K g B H p d) (e : H' p = H p) (s : Sub B B') : OwnAt K g B' H' p d := by
  cases h with
  | lst h k => exact .lst (by rw [e]; exact h) (k.mono s)
  | dct h k => exact .dct (by rw [e]; exact h) (k.mono s)
  | dx h h2 h3 h4 h5 => exact .dx (by rw [e]; exact h) h2 (h3.mono s) (h4.mono s) h5
/-- frozen: it is known to a base that has it -/
theorem OwnAt.frz {p : Addr} {d : D} (h : OwnAt K g B H p d) (s : Sub B B') (e : B' p = H p) : Hd K g B' (.ref p) d := by
  cases h with
  | lst h k => exact .lst (by rw [e]; exact h) (k.mono s)
  | dct h k => exact .dct (by rw [e]; exact h) (k.mono s)
  | dx h h2 h3 h4 h5 => exact .dx (by rw [e]; exact h) h2 (h3.mono s) (h4.mono s) h5
def hide : List Nat → Env → Env
  | [], e => e
  | i :: o, e => (hide o e).set i none
theorem hide_get {i : Nat} {d : D} : ∀ {o : List Nat} {e : Env}, (hide o e)[i]? = some (some d) → i ∉ o ∧ e[i]? = some (some d)
  | [], e, h => ⟨by simp, h⟩
  | j :: o, e, h => by
    unfold hide at h
    by_cases hj : j = i
    · subst hj
      by_cases hv : j < (hide o e).length
      · rw [List.getElem?_set_self hv] at h; cases h
      · rw [List.getElem?_eq_none (by simpa using hv)] at h; cases h
    · rw [List.getElem?_set_ne hj] at h
      obtain ⟨h1, h2⟩ := hide_get h
      exact ⟨by simp only [List.mem_cons, not_or]; exact ⟨fun z => hj z.symm, h1⟩, h2⟩
theorem hide_len : ∀ (o : List Nat) (e : Env), (hide o e).length = e.length
  | [], _ => rfl
  | _ :: o, e => by unfold hide; rw [List.length_set, hide_len o e]
theorem RepS.rep (r : RepS K g fg o B H σ env t) : Rep K g B H σ (hide o env) t := ⟨r.bs, by rw [hide_len]; exact r.len, fun i d e => let ⟨h1, h2⟩ := hide_get e; r.vars i d h1 h2⟩
theorem RepS.rep0 (r : RepS K g fg [] B H σ env t) : Rep K g B H σ env t := ⟨r.bs, r.len, fun i d e => r.vars i d (by simp) e⟩
theorem RepS.h0 (r : RepS K g fg o B H σ env t) {b : Addr} (h : fg.H0 b ≠ none) : H b ≠ none := by
  by_cases e : b = g.ta
  · rw [e, r.bs.tp]; exact fun z => nomatch z
  · cases q : fg.H0 b with
    | none => exact absurd q h
    | some x => rw [r.keep0 b x e q]; exact fun z => nomatch z
theorem RepS.fresh (r : RepS K g fg o B H σ env t) {p : Addr} (h : H p = none) : fg.H0 p = none := by
  cases q : fg.H0 p with
  | none => rfl
  | some x => exact absurd h (r.h0 (by rw [q]; exact fun z => nomatch z))
theorem RepS.step (r : RepS K g fg o B H σ env t) (s : Step g B H t' B' H') : RepS K g fg o B' H' σ env t' where
  bs := s.bs
  len := r.len
  vars := fun i d h e => let ⟨v, h1, h2⟩ := r.vars i d h e; ⟨v, h1, h2.mono s.b1⟩
  own := fun i d h e => by
    obtain ⟨p, h1, h2, h3, h4, h5⟩ := r.own i d h e
    refine ⟨p, h1, h2, s.b3 p h5.live h3, h4, h5.move ?_ s.b1⟩
    cases q : H p with
    | none => exact absurd q h5.live
    | some x => exact s.h1 p x h2 q
  sep := r.sep
  keep0 := fun b x hb e => s.h1 b x hb (r.keep0 b x hb e)
  b0 := r.b0.trans s.b1
  sep0 := fun b h1 h2 => s.b3 b (r.h0 h1) (r.sep0 b h1 h2)
  t0 := r.t0
  tb0 := r.tb0
/-- some of the own cells are given to the base -/
theorem RepS.drop (r : RepS K g fg o B H σ env t) (hs : ∀ i ∈ o', i ∈ o) : ∃ B', RepS K g fg o' B' H σ env t ∧ Sub B B' ∧ (∀ p, H p = none → B' p = none) := by
  classical
  refine ⟨fun b => if ∃ i d, i ∈ o ∧ i ∉ o' ∧ env[i]? = some (some d) ∧ σ[i]? = some (some (.ref b)) then H b else B b, ?_, ?_, ?_⟩
  case _ =>
    have sub : Sub B (fun b => if ∃ i d, i ∈ o ∧ i ∉ o' ∧ env[i]? = some (some d) ∧ σ[i]? = some (some (.ref b)) then H b else B b) := fun b x e => by
      show (if _ then H b else B b) = some x
      split
      · exact r.bs.sub b x e
      · exact e
    refine ⟨⟨fun b x e => ?_, r.bs.tp, ?_, sub _ _ r.bs.cl⟩, r.len, fun i d hi e => ?_, fun i d hi e => ?_, fun i j p d e hi hj => r.sep i j p d e (hs i hi) (hs j hj), r.keep0, r.b0.trans sub, fun b h1 h2 => ?_, r.t0, r.tb0⟩
    · have e : (if ∃ i d, i ∈ o ∧ i ∉ o' ∧ env[i]? = some (some d) ∧ σ[i]? = some (some (.ref b)) then H b else B b) = some x := e
      split at e
      · exact e
      · exact r.bs.sub b x e
    · show (if _ then H g.ta else B g.ta) = none
      rw [if_neg]
      · exact r.bs.tb
      · rintro ⟨i, d, h1, h2, h3, h4⟩
        obtain ⟨p, k1, k2, _⟩ := r.own i d h1 h3
        rw [h4] at k1
        cases k1
        exact k2 rfl
    · by_cases ho : i ∈ o
      · obtain ⟨p, k1, k2, k3, k4, k5⟩ := r.own i d ho e
        refine ⟨_, k1, k5.frz sub ?_⟩
        show (if _ then H p else B p) = H p
        rw [if_pos ⟨i, d, ho, hi, e, k1⟩]
      · obtain ⟨v, h1, h2⟩ := r.vars i d ho e
        exact ⟨v, h1, h2.mono sub⟩
    · obtain ⟨p, k1, k2, k3, k4, k5⟩ := r.own i d (hs i hi) e
      refine ⟨p, k1, k2, ?_, k4, k5.move rfl sub⟩
      show (if _ then H p else B p) = none
      rw [if_neg]
      · exact k3
      · rintro ⟨j, d', h1, h2, h3, h4⟩
        exact r.sep i j p d d' (hs i hi) h1 (fun z => h2 (z ▸ hi)) e h3 k1 h4
    · show (if _ then H b else B b) = none
      rw [if_neg]
      · exact r.sep0 b h1 h2
      · rintro ⟨j, d', k1, k2, k3, k4⟩
        obtain ⟨p, l1, l2, l3, l4, l5⟩ := r.own j d' k1 k3
        rw [k4] at l1
        cases l1
        exact h1 l4
  case _ =>
    intro b x e
    show (if _ then H b else B b) = some x
    split
    · exact r.bs.sub b x e
    · exact e
  case _ =>
    intro p hp
    show (if _ then H p else B p) = none
    split
    · exact hp
    · cases q : B p with
      | none => rfl
      | some x => rw [r.bs.sub p x q] at hp; cases hp
theorem RepS.frz (r : RepS K g fg o B H σ env t) : ∃ B', RepS K g fg [] B' H σ env t ∧ Sub B B' ∧ (∀ p, H p = none → B' p = none) := r.drop fun _ h => by cases h
/-- behind something that was evaluated with all cells given to the base, and left nothing behind -/
theorem RepS.back (r : RepS K g fg o B H σ env t) {B1 B2 : Hp} (sb : Sub B B1) (s : Step g B1 H t' B2 H') : RepS K g fg o B H' σ env t' where
  bs := by
    have nt : t'.ns = t.ns := by
      have h1 := s.b1 _ _ (sb _ _ r.bs.cl)
      rw [s.bs.cl] at h1
      injection h1 with h1
      injection h1 with h1
      have inj : ∀ (a b : List Int), a.map V.int = b.map V.int → a = b := by
        intro a
        induction a with
        | nil => intro b h; cases b with
          | nil => rfl
          | cons _ _ => simp at h
        | cons x a ih => intro b h; cases b with
          | nil => simp at h
          | cons y b => simp at h; rw [h.1, ih b (by simpa using h.2)]
      exact inj _ _ h1
    exact ⟨fun b x e => by
      have hb : b ≠ g.ta := fun z => by rw [z, r.bs.tb] at e; cases e
      exact s.h1 b x hb (r.bs.sub b x e), s.bs.tp, r.bs.tb, by rw [nt]; exact r.bs.cl⟩
  len := r.len
  vars := r.vars
  own := fun i d h e => by
    obtain ⟨p, h1, h2, h3, h4, h5⟩ := r.own i d h e
    refine ⟨p, h1, h2, h3, h4, h5.move ?_ (.refl _)⟩
    cases q : H p with
    | none => exact absurd q h5.live
    | some x => exact s.h1 p x h2 q
  sep := r.sep
  keep0 := fun b x hb e => s.h1 b x hb (r.keep0 b x hb e)
  b0 := r.b0
  sep0 := r.sep0
  t0 := r.t0
  tb0 := r.tb0
end

/-! ### expressions in a statement -/
def tDS (K : PySem.W.Frag) (o : List Nat) (f : SE) : TE := fun (σ : Sg) H Q => ∃ g fg B env t d t', RepS K g fg o B H σ env t ∧ f env t = some (d, t') ∧
  ∀ v B' H', RepS K g fg o B' H' σ env t' → Sub B B' → Hd K g B' v d → Q v H'
structure EVS (X : Cx) (o : List Nat) (e : Expr) (f : SE) : Prop where
  pe : PE X e (tDS X.K o f)
def useV (o : List Nat) (f : SE) : SE := fun e t => f (hide o e) t
def useB (f : SE) : SE := fun e t => match f e t with
  | some (d, t') => if atomic d = true then some (d, t') else none
  | none => none
section
variable {X : Cx} {o : List Nat} {e : Expr} {f : SE}
theorem evs (h : EV X e f) : EVS X [] e f := ⟨pe_weak h.pe fun σ H Q h => by
  obtain ⟨g, fg, B, env, t, d, t', r, e, q⟩ := h
  exact ⟨g, B, env, t, d, t', r.rep0, e, fun v B' H' s h => q v B' H' (r.step s) s.b1 h⟩⟩
theorem evsV (h : EV X e f) : EVS X o e (useV o f) := ⟨pe_weak h.pe fun σ H Q h => by
  obtain ⟨g, fg, B, env, t, d, t', r, e, q⟩ := h
  exact ⟨g, B, hide o env, t, d, t', r.rep, e, fun v B' H' s h => q v B' H' (r.step s) s.b1 h⟩⟩
theorem evsB (h : EV X e f) : EVS X o e (useB f) := ⟨pe_weak h.pe fun σ H Q h => by
  obtain ⟨g, fg, B, env, t, d, t', r, e, q⟩ := h
  unfold useB at e
  split at e
  · rename_i d1 t1 e1
    split at e
    · rename_i ha
      cases e
      obtain ⟨B1, r1, sb, _⟩ := r.frz
      exact ⟨g, B1, env, t, d, t', r1.rep0, e1, fun v B' H' s h => q v B H' (r.back sb s) (.refl _) (h.atom ha)⟩
    · cases e
  · cases e⟩
/-- a test in a statement -/
def tDTS (K : PySem.W.Frag) (o : List Nat) (f : ST) : TT := fun (σ : Sg) H Q => ∃ g fg B env t c t', RepS K g fg o B H σ env t ∧ f env t = some (c, t') ∧
  ∀ B' H', RepS K g fg o B' H' σ env t' → Q c H'
structure ETS (X : Cx) (o : List Nat) (e : Expr) (f : ST) : Prop where
  pt : PT X e (tDTS X.K o f)
theorem ets {f : ST} (h : ET X e f) : ETS X o e f := ⟨pt_weak h.pt fun σ H Q h => by
  obtain ⟨g, fg, B, env, t, c, t', r, e, q⟩ := h
  obtain ⟨B1, r1, sb, _⟩ := r.frz
  exact ⟨g, B1, env, t, c, t', r1.rep0, e, fun B' H' s => q B H' (r.back sb s)⟩⟩

/-! ### fresh values -/
def tF (K : PySem.W.Frag) (f : SE) : TE := fun (σ : Sg) H Q => ∃ g B env t d t', Rep K g B H σ env t ∧ f env t = some (d, t') ∧
  ∀ p B' H', Step g B H t' B' H' → H p = none → B' p = none → OwnAt K g B' H' p d → Q (.ref p) H'
structure EF (X : Cx) (e : Expr) (f : SE) : Prop where
  pe : PE X e (tF X.K f)
def tFS (K : PySem.W.Frag) (o : List Nat) (f : SE) : TE := fun (σ : Sg) H Q => ∃ g fg B env t d t', RepS K g fg o B H σ env t ∧ f env t = some (d, t') ∧
  ∀ p B' H', RepS K g fg o B' H' σ env t' → p ≠ g.ta → B' p = none → fg.H0 p = none → (∀ i d, i ∈ o → env[i]? = some (some d) → σ[i]? ≠ some (some (.ref p))) → OwnAt K g B' H' p d → Q (.ref p) H'
structure EFS (X : Cx) (o : List Nat) (e : Expr) (f : SE) : Prop where
  pe : PE X e (tFS X.K o f)
theorem Step.own {K : PySem.W.Frag} {g : G} {B H B' H' : Hp} {t t' : T} {p : Addr} {d : D} (b : Base g B H t) (s : Step g B H t' B' H') (hp : H p = none) (bp : B' p = none) (h : OwnAt K g B' H' p d) : ∃ B2, Step g B H t' B2 H' ∧ Hd K g B2 (.ref p) d := by
  have nt : g.ta ≠ p := ne_of_none b.tp hp
  cases ho : H' p with
  | none => exact absurd ho h.live
  | some x =>
    have sb : Sub B' (upd B' p x) := .new bp
    refine ⟨upd B' p x, ⟨⟨fun c u e => ?_, s.bs.tp, by rw [upd_ne nt]; exact s.bs.tb, sb _ _ s.bs.cl⟩, s.b1.trans sb, fun c hc hn => ?_, s.h1⟩, h.frz sb (by rw [upd_same, ho])⟩
    · by_cases hc : c = p
      · subst hc; rw [upd_same] at e; rw [ho]; exact e
      · rw [upd_ne hc] at e; exact s.bs.sub c u e
    · rw [upd_ne (fun z => hc (by rw [z]; exact hp))]
      exact s.b3 c hc hn
theorem EF.ev (h : EF X e f) : EV X e f := ⟨pe_weak h.pe fun σ H Q h => by
  obtain ⟨g, B, env, t, d, t', r, e, q⟩ := h
  refine ⟨g, B, env, t, d, t', r, e, fun p B' H' s hp bp ow => ?_⟩
  obtain ⟨B2, s2, h2⟩ := s.own r.bs hp bp ow
  exact q _ B2 H' s2 h2⟩
theorem tF_of {K : PySem.W.Frag} {σ : Sg} {H : Hp} {Q : VK} (h : tFS K o (useV o f) σ H Q) : tF K f σ H Q := by
  obtain ⟨g, fg, B, env, t, d, t', r, e, q⟩ := h
  refine ⟨g, B, hide o env, t, d, t', r.rep, e, fun p B' H' s hp bp ow => ?_⟩
  refine q p B' H' (r.step s) (fun z => ne_of_none r.bs.tp hp z.symm) bp (r.fresh hp) (fun i d' hi ed z => ?_) ow
  obtain ⟨p', k1, _, _, _, k5⟩ := r.own i d' hi ed
  rw [z] at k1
  cases k1
  exact k5.live hp
theorem tF_ofD {K : PySem.W.Frag} {σ : Sg} {H : Hp} {Q : VK} (h : tD K f σ H Q) : tF K f σ H Q := by
  obtain ⟨g, B, env, t, d, t', r, e, q⟩ := h
  refine ⟨g, B, env, t, d, t', r, e, fun p B' H' s hp bp ow => ?_⟩
  obtain ⟨B2, s2, h2⟩ := s.own r.bs hp bp ow
  exact q _ B2 H' s2 h2
theorem tD_of {K : PySem.W.Frag} {σ : Sg} {H : Hp} {Q : VK} (h : tDS K o (useV o f) σ H Q) : tD K f σ H Q := by
  obtain ⟨g, fg, B, env, t, d, t', r, e, q⟩ := h
  exact ⟨g, B, hide o env, t, d, t', r.rep, e, fun v B' H' s h => q v B' H' (r.step s) s.b1 h⟩
theorem EF.efs (h : EF X e f) : EFS X o e (useV o f) := ⟨pe_weak h.pe fun σ H Q h => tF_of h⟩

/-! ### statements -/
inductive Out where
  | nx (e : Env) (t : T)
  | rt (d : D) (t : T)
abbrev SS := Env → T → Option Out
/-- what is promised of what comes back -/
abbrev RT := G → FG → Hp → Hp → V → D → T → Prop
structure RetB (g : G) (fg : FG) (B H : Hp) (t : T) : Prop where
  bs : Base g B H t
  keep0 : ∀ b x, b ≠ g.ta → fg.H0 b = some x → H b = some x
  b0 : Sub fg.B0 B
  sep0 : ∀ b, fg.H0 b ≠ none → fg.B0 b = none → B b = none
theorem RepS.ret {K : PySem.W.Frag} {g : G} {fg : FG} {o : List Nat} {B H : Hp} {σ : Sg} {env : Env} {t : T} (r : RepS K g fg o B H σ env t) : RetB g fg B H t := ⟨r.bs, r.keep0, r.b0, r.sep0⟩
def RetV (K : PySem.W.Frag) : RT := fun g fg B H v d t => RetB g fg B H t ∧ Hd K g B v d
def RetF (K : PySem.W.Frag) : RT := fun g fg B H v d t => RetB g fg B H t ∧ ∃ p, v = .ref p ∧ p ≠ g.ta ∧ B p = none ∧ fg.H0 p = none ∧ OwnAt K g B H p d
def EndS (K : PySem.W.Frag) (R : RT) (g : G) (fg : FG) (o : List Nat) (E : Ends) : Out → Prop
  | .nx env t => ∀ (σ : Sg) B H, RepS K g fg o B H σ env t → E.nx σ H
  | .rt d t => ∀ v B H, R g fg B H v d t → E.rt v H
def tS (K : PySem.W.Frag) (R : RT) (o : List Nat) (f : SS) (o' : List Nat) : TS := fun E (σ : Sg) H => ∃ g fg B env t r, RepS K g fg o B H σ env t ∧ f env t = some r ∧ EndS K R g fg o' E r
structure ES (X : Cx) (R : RT) (o : List Nat) (st : Stmt) (f : SS) (o' : List Nat) : Prop where
  ps : PS X st (tS X.K R o f o')
structure ESs (X : Cx) (R : RT) (o : List Nat) (st : List Stmt) (f : SS) (o' : List Nat) : Prop where
  pss : PSs X st (tS X.K R o f o')
theorem ps_weak {st : Stmt} {t t' : TS} (h : PS X st t) (w : ∀ E σ H, t' E σ H → t E σ H) : PS X st t' := ⟨fun pins s σ H E I q => h.run pins s σ H E I (w E σ H q)⟩
theorem pss_weak {st : List Stmt} {t t' : TS} (h : PSs X st t) (w : ∀ E σ H, t' E σ H → t E σ H) : PSs X st t' := ⟨fun pins s σ H E I q => h.run pins s σ H E I (w E σ H q)⟩
variable {R : RT} {o1 o2 : List Nat} {st : Stmt} {rest : List Stmt} {fs gs : SS}
def sSkip : SS := fun e t => some (.nx e t)
def sSeq (f h : SS) : SS := fun e t => match f e t with
  | some (.nx e1 t1) => h e1 t1
  | some (.rt d t1) => some (.rt d t1)
  | none => none
theorem ess_nil : ESs X R o [] sSkip o := ⟨pss_weak pss_nil fun E σ H h => by
  obtain ⟨g, fg, B, env, t, r, rp, e, q⟩ := h
  cases e
  exact q σ B H rp⟩
theorem ess_one (h : ES X R o st fs o1) : ESs X R o [st] fs o1 := ⟨pss_one h.ps⟩
theorem ess_cons (h1 : ES X R o st fs o1) (h2 : ESs X R o1 rest gs o2) : ESs X R o (st :: rest) (sSeq fs gs) o2 := ⟨pss_weak (pss_cons h1.ps h2.pss) fun E σ H h => by
  obtain ⟨g, fg, B, env, t, r, rp, e, q⟩ := h
  unfold sSeq at e
  split at e
  · rename_i e1 t1 ef
    exact ⟨g, fg, B, env, t, _, rp, ef, fun σ1 B1 H1 r1 => ⟨g, fg, B1, e1, t1, r, r1, e, q⟩⟩
  · rename_i d t1 ef
    cases e
    exact ⟨g, fg, B, env, t, _, rp, ef, q⟩
  · cases e⟩
/-- cells given to the base ahead of a statement -/
theorem ES.drop (h : ES X R o1 st fs o2) (hs : ∀ i ∈ o1, i ∈ o) : ES X R o st fs o2 := ⟨ps_weak h.ps fun E σ H h => by
  obtain ⟨g, fg, B, env, t, r, rp, e, q⟩ := h
  obtain ⟨B1, r1, _⟩ := rp.drop hs
  exact ⟨g, fg, B1, env, t, r, r1, e, q⟩⟩
theorem ESs.drop {sts : List Stmt} (h : ESs X R o1 sts fs o2) (hs : ∀ i ∈ o1, i ∈ o) : ESs X R o sts fs o2 := ⟨pss_weak h.pss fun E σ H h => by
  obtain ⟨g, fg, B, env, t, r, rp, e, q⟩ := h
  obtain ⟨B1, r1, _⟩ := rp.drop hs
  exact ⟨g, fg, B1, env, t, r, r1, e, q⟩⟩
/-- .. behind it -/
theorem ES.lose (h : ES X R o st fs o1) (hs : ∀ i ∈ o2, i ∈ o1) : ES X R o st fs o2 := ⟨ps_weak h.ps fun E σ H h => by
  obtain ⟨g, fg, B, env, t, r, rp, e, q⟩ := h
  refine ⟨g, fg, B, env, t, r, rp, e, ?_⟩
  cases r with
  | nx e1 t1 =>
    intro σ1 B1 H1 r1
    obtain ⟨B2, r2, _⟩ := r1.drop hs
    exact q σ1 B2 H1 r2
  | rt d t1 => exact q⟩
theorem ESs.lose {sts : List Stmt} (h : ESs X R o sts fs o1) (hs : ∀ i ∈ o2, i ∈ o1) : ESs X R o sts fs o2 := ⟨pss_weak h.pss fun E σ H h => by
  obtain ⟨g, fg, B, env, t, r, rp, e, q⟩ := h
  refine ⟨g, fg, B, env, t, r, rp, e, ?_⟩
  cases r with
  | nx e1 t1 =>
    intro σ1 B1 H1 r1
    obtain ⟨B2, r2, _⟩ := r1.drop hs
    exact q σ1 B2 H1 r2
  | rt d t1 => exact q⟩

/-! ### stores to names -/
theorem RepS.set {K : PySem.W.Frag} {g : G} {fg : FG} {o : List Nat} {B H : Hp} {σ : Sg} {env : Env} {t : T} {i : Nat} {v : V} {d : D} (r : RepS K g fg o B H σ env t) (h : Hd K g B v d) :
    RepS K g fg (o.filter (· ≠ i)) B H (σ.set i (some v)) (env.set i (some d)) t where
  bs := r.bs
  len := by rw [List.length_set, List.length_set]; exact r.len
  vars := fun j e hj ej => by
    by_cases hij : i = j
    · subst hij
      have hl : i < env.length := by
        rcases Nat.lt_or_ge i env.length with z | z
        · exact z
        · rw [List.getElem?_eq_none (by simpa using z)] at ej; cases ej
      rw [List.getElem?_set_self hl] at ej
      cases ej
      exact ⟨v, List.getElem?_set_self (by rw [← r.len]; exact hl), h⟩
    · rw [List.getElem?_set_ne hij] at ej
      obtain ⟨w, h1, h2⟩ := r.vars j e (fun z => hj (List.mem_filter.mpr ⟨z, by simpa using fun q => hij q.symm⟩)) ej
      exact ⟨w, by rw [List.getElem?_set_ne hij]; exact h1, h2⟩
  own := fun j e hj ej => by
    obtain ⟨h1, h2⟩ := List.mem_filter.mp hj
    have hij : i ≠ j := by have : j ≠ i := by simpa using h2
                           exact fun z => this z.symm
    rw [List.getElem?_set_ne hij] at ej
    obtain ⟨p, k1, k2⟩ := r.own j e h1 ej
    exact ⟨p, by rw [List.getElem?_set_ne hij]; exact k1, k2⟩
  sep := fun j k p d1 d2 hj hk hjk ej ek sj => by
    obtain ⟨h1, h2⟩ := List.mem_filter.mp hj
    obtain ⟨h3, h4⟩ := List.mem_filter.mp hk
    have hij : i ≠ j := by have : j ≠ i := by simpa using h2
                           exact fun z => this z.symm
    have hik : i ≠ k := by have : k ≠ i := by simpa using h4
                           exact fun z => this z.symm
    rw [List.getElem?_set_ne hij] at ej sj
    rw [List.getElem?_set_ne hik] at ek ⊢
    exact r.sep j k p d1 d2 h1 h3 hjk ej ek sj
  keep0 := r.keep0
  b0 := r.b0
  sep0 := r.sep0
  t0 := r.t0
  tb0 := r.tb0
theorem RepS.setOwn {K : PySem.W.Frag} {g : G} {fg : FG} {o : List Nat} {B H : Hp} {σ : Sg} {env : Env} {t : T} {i : Nat} {p : Addr} {d : D} (r : RepS K g fg o B H σ env t) (h1 : p ≠ g.ta) (h2 : B p = none) (h3 : fg.H0 p = none)
    (h4 : ∀ i d, i ∈ o → env[i]? = some (some d) → σ[i]? ≠ some (some (.ref p))) (h : OwnAt K g B H p d) :
    RepS K g fg (i :: o.filter (· ≠ i)) B H (σ.set i (some (.ref p))) (env.set i (some d)) t where
  bs := r.bs
  len := by rw [List.length_set, List.length_set]; exact r.len
  vars := fun j e hj ej => by
    simp only [List.mem_cons, not_or] at hj
    have hij : i ≠ j := fun z => hj.1 z.symm
    rw [List.getElem?_set_ne hij] at ej
    obtain ⟨w, k1, k2⟩ := r.vars j e (fun z => hj.2 (List.mem_filter.mpr ⟨z, by simpa using fun q => hij q.symm⟩)) ej
    exact ⟨w, by rw [List.getElem?_set_ne hij]; exact k1, k2⟩
  own := fun j e hj ej => by
    by_cases hij : i = j
    · subst hij
      have hl : i < env.length := by
        rcases Nat.lt_or_ge i env.length with z | z
        · exact z
        · rw [List.getElem?_eq_none (by simpa using z)] at ej; cases ej
      rw [List.getElem?_set_self hl] at ej
      cases ej
      exact ⟨p, List.getElem?_set_self (by rw [← r.len]; exact hl), h1, h2, h3, h⟩
    · rcases List.mem_cons.mp hj with z | z
      · exact absurd z.symm hij
      · obtain ⟨z1, z2⟩ := List.mem_filter.mp z
        rw [List.getElem?_set_ne hij] at ej
        obtain ⟨p', k1, k2⟩ := r.own j e z1 ej
        exact ⟨p', by rw [List.getElem?_set_ne hij]; exact k1, k2⟩
  sep := fun j k q d1 d2 hj hk hjk ej ek sj => by
    have mem : ∀ {j : Nat}, j ∈ i :: o.filter (· ≠ i) → i ≠ j → j ∈ o := fun {j} hj hij => by
      rcases List.mem_cons.mp hj with z | z
      · exact absurd z.symm hij
      · exact (List.mem_filter.mp z).1
    by_cases hij : i = j
    · subst hij
      rw [List.getElem?_set_ne hjk] at ek ⊢
      have hl : i < σ.length := by
        rcases Nat.lt_or_ge i σ.length with z | z
        · exact z
        · rw [List.getElem?_eq_none (by simpa using z)] at sj; cases sj
      rw [List.getElem?_set_self hl] at sj
      cases sj
      exact h4 k d2 (mem hk hjk) ek
    · rw [List.getElem?_set_ne hij] at ej sj
      by_cases hik : i = k
      · subst hik
        intro sk
        have hl : i < σ.length := by
          rcases Nat.lt_or_ge i σ.length with z | z
          · exact z
          · rw [List.getElem?_eq_none (by simpa using z)] at sk; cases sk
        rw [List.getElem?_set_self hl] at sk
        cases sk
        exact h4 j d1 (mem hj hij) ej sj
      · rw [List.getElem?_set_ne hik] at ek ⊢
        exact r.sep j k q d1 d2 (mem hj hij) (mem hk hik) hjk ej ek sj
  keep0 := r.keep0
  b0 := r.b0
  sep0 := r.sep0
  t0 := r.t0
  tb0 := r.tb0
def sSet (i : Nat) (f : SE) : SS := fun e t => match f e t with
  | some (d, t') => some (.nx (e.set i (some d)) t')
  | none => none
theorem es_set (i : Nat) {x : Str} {pos pos' : Pos} (h : EVS X o e f) (hN : X.N.Nodup) (hi : X.N[i]? = some x := by rfl) (hx : Loc X.env.scope x := by first | exact Or.inl rfl | exact Or.inr rfl)
    (hs : swapsWith e (some (.Name x pos')) pos.line X.env = pure false := by rfl) (hf : X.fn x = true ∨ X.env.scope.names.lookup x = some .local := by first | exact .inl rfl | exact .inr rfl) :
    ES X R o (.Assign [.Name x pos'] e pos) (sSet i f) (o.filter (· ≠ i)) := ⟨ps_weak (ps_set hN hi hx h.pe hs hf) fun E σ H h => by
  obtain ⟨g, fg, B, env, t, r, rp, e, q⟩ := h
  unfold sSet at e
  split at e
  · rename_i d t' ef
    cases e
    exact ⟨g, fg, B, env, t, d, t', rp, ef, fun v B' H' r1 _ h1 => q _ B' H' (r1.set h1)⟩
  · cases e⟩
theorem es_setF (i : Nat) {x : Str} {pos pos' : Pos} (h : EFS X o e f) (hN : X.N.Nodup) (hi : X.N[i]? = some x := by rfl) (hx : Loc X.env.scope x := by first | exact Or.inl rfl | exact Or.inr rfl)
    (hs : swapsWith e (some (.Name x pos')) pos.line X.env = pure false := by rfl) (hf : X.fn x = true ∨ X.env.scope.names.lookup x = some .local := by first | exact .inl rfl | exact .inr rfl) :
    ES X R o (.Assign [.Name x pos'] e pos) (sSet i f) (i :: o.filter (· ≠ i)) := ⟨ps_weak (ps_set hN hi hx h.pe hs hf) fun E σ H h => by
  obtain ⟨g, fg, B, env, t, r, rp, e, q⟩ := h
  unfold sSet at e
  split at e
  · rename_i d t' ef
    cases e
    exact ⟨g, fg, B, env, t, d, t', rp, ef, fun p B' H' r1 h1 h2 h3 h4 h5 => q _ B' H' (r1.setOwn h1 h2 h3 h4 h5)⟩
  · cases e⟩

/-! ### return, if -/
def sRet (f : SE) : SS := fun e t => match f e t with
  | some (d, t') => some (.rt d t')
  | none => none
theorem es_ret {pos : Pos} (h : EV X e f) : ES X (RetV X.K) o (.Return (some e) pos) (sRet f) o1 := ⟨ps_weak (ps_ret h.pe) fun E σ H h => by
  obtain ⟨g, fg, B, env, t, r, rp, e, q⟩ := h
  unfold sRet at e
  split at e
  · rename_i d t' ef
    cases e
    obtain ⟨B1, r1, _⟩ := rp.frz
    exact ⟨g, B1, env, t, d, t', r1.rep0, ef, fun v B' H' s h1 => q v B' H' ⟨(r1.step s).ret, h1⟩⟩
  · cases e⟩
/-- a fresh value goes back -/
theorem es_retF {pos : Pos} (h : EF X e f) : ES X (RetF X.K) o (.Return (some e) pos) (sRet f) o1 := ⟨ps_weak (ps_ret h.pe) fun E σ H h => by
  obtain ⟨g, fg, B, env, t, r, rp, e, q⟩ := h
  unfold sRet at e
  split at e
  · rename_i d t' ef
    cases e
    obtain ⟨B1, r1, _⟩ := rp.frz
    exact ⟨g, B1, env, t, d, t', r1.rep0, ef, fun p B' H' s hp bp ow => q _ B' H' ⟨(r1.step s).ret, p, rfl, fun z => ne_of_none r1.bs.tp hp z.symm, bp, r1.fresh hp, ow⟩⟩
  · cases e⟩
/-- an own cell goes back -/
theorem es_retO (i : Nat) {x : Str} {pos pos' : Pos} (ho : i ∈ o) (hN : X.N[i]? = some x := by rfl) (hv : Vis X.env.scope x := by first | exact Or.inl rfl | exact Or.inr (Or.inl rfl) | exact Or.inr (Or.inr rfl)) (hd : (x == ("__debug__" : Str)) = false := by decide)
    (hcd : (x == ("__classdict__" : Str)) = false := by decide) : ES X (RetF X.K) o (.Return (some (.Name x pos')) pos) (sRet (cVar i)) o1 := ⟨ps_weak (ps_ret (pe_var hN hv hd hcd)) fun E σ H h => by
  obtain ⟨g, fg, B, env, t, r, rp, e, q⟩ := h
  unfold sRet cVar at e
  split at e
  · rename_i d t' ef
    split at ef
    · rename_i d2 e2
      cases ef
      cases e
      obtain ⟨p, k1, k2, k3, k4, k5⟩ := rp.own i _ ho e2
      exact ⟨_, k1, q _ B H ⟨rp.ret, p, rfl, k2, k3, k4, k5⟩⟩
    · cases ef
  · cases e⟩
theorem es_retN {pos : Pos} : ES X (RetV X.K) o (.Return none pos) (sRet (cC .none)) o1 := ⟨ps_weak ps_retN fun E σ H h => by
  obtain ⟨g, fg, B, env, t, r, rp, e, q⟩ := h
  cases e
  exact q _ B H ⟨rp.ret, .non⟩⟩
def sIf (c : ST) (f h : SS) : SS := fun e t => match c e t with
  | some (true, t') => f e t'
  | some (false, t') => h e t'
  | none => none
theorem es_if {c : Expr} {fc : ST} {b1 b2 : List Stmt} {pos : Pos} (hc : ETS X o c fc) (h1 : ESs X R o b1 fs o1) (h2 : ESs X R o b2 gs o1) : ES X R o (.If c b1 b2 pos) (sIf fc fs gs) o1 := ⟨ps_weak (ps_if hc.pt h1.pss h2.pss) fun E σ H h => by
  obtain ⟨g, fg, B, env, t, r, rp, e, q⟩ := h
  unfold sIf at e
  split at e
  · rename_i t1 ec
    refine ⟨g, fg, B, env, t, _, t1, rp, ec, fun B1 H1 r1 => ?_⟩
    refine iteT ?_
    exact ⟨g, fg, B1, env, t1, r, r1, e, q⟩
  · rename_i t1 ec
    refine ⟨g, fg, B, env, t, _, t1, rp, ec, fun B1 H1 r1 => ?_⟩
    refine iteF ?_
    exact ⟨g, fg, B1, env, t1, r, r1, e, q⟩
  · cases e⟩
end

/-! ### a def by its body -/
def startE (N : Nat) (ds : List D) : Env := ds.map some ++ List.replicate (N - ds.length) none
def fnSem (N : Nat) (f : SS) : SF := fun ds t => match f (startE N ds) t with
  | some (.rt d t') => some (d, t')
  | some (.nx _ t') => some (.none, t')
  | none => none
theorem start_rel {K : PySem.W.Frag} {g : G} {B : Hp} {N : List Str} {vs : List V} {ds : List D} (h : HdL K g B vs ds) : ∀ (i : Nat) (d : D), (startE N.length ds)[i]? = some (some d) → ∃ v, (L2.start N vs)[i]? = some (some v) ∧ Hd K g B v d := by
  intro i d e
  unfold startE at e
  by_cases hi : i < ds.length
  · rw [List.getElem?_append_left (by simpa using hi), List.getElem?_map] at e
    cases q : ds[i]? with
    | none => rw [q] at e; cases e
    | some d' =>
      rw [q] at e
      cases e
      obtain ⟨v, h1, h2⟩ := h.get q
      refine ⟨v, ?_, h2⟩
      unfold L2.start
      rw [List.getElem?_append_left (by rw [List.length_map, h.len]; exact hi), List.getElem?_map, h1]
      rfl
  · rw [List.getElem?_append_right (by simpa using hi), List.getElem?_replicate] at e
    split at e <;> cases e
section
variable {P : Program} {w : World} {K : PySem.W.Frag} {mg : Str → Option Value} {base : Heap}
theorem repS_start {g : G} {B H : Hp} {t : T} {N : List Str} {vs : List V} {ds : List D} (b : Base g B H t) (h : HdL K g B vs ds) : RepS K g ⟨H, B⟩ [] B H (L2.start N vs) (startE N.length ds) t :=
  ⟨b, by unfold startE L2.start; simp only [List.length_append, List.length_map, List.length_replicate]; rw [h.len], fun i d _ e => start_rel h i d e, fun i d hi => absurd hi (by simp), fun i j p d e hi => absurd hi (by simp), fun _ _ _ h => h, .refl _, fun _ _ h => h,
    (by show H g.ta ≠ none; rw [b.tp]; exact fun z => nomatch z), b.tb⟩


theorem fn_ok {x qual : Str} {st : Stmt} {f : Addr} {fd : FuncData} {N ps : List Str} {k : Nat} {body : SS} {o : List Nat} (F : Fun K x qual st f fd) (S : FnScope N ps (defScope st))
    (hb : ∀ (cdv : Value) (A : Around) (outer : List PySem.Env) (s : Shared) (H : Hp) (E : XK), Room k (A.deeper (envOfC qual (defScope st) s.heap.objs.size f cdv)) →
      ESs (cxOf CX0 P w K mg base N qual (defScope st) f cdv A outer s H E).nox (RetV K) [] (defBody st) body o) : FnOk P w K mg base CX0 (k + 1) f fd ps (spF K ps.length (fnSem N.length body)) := by
  refine F.ok S (fun vs H Q E h => ?_) (fun cdv A outer s H vs Q E hr h => ?_)
  · obtain ⟨g, B, ds, t, d, t', h, _⟩ := h
    exact h
  · refine ⟨_, (hb cdv A outer s H E hr).pss, ?_⟩
    obtain ⟨g, B, ds, t, d, t', hl, b, hd, e, q⟩ := h
    unfold fnSem at e
    split at e
    · rename_i d1 t1 e1
      cases e
      exact ⟨g, ⟨H, B⟩, B, _, t, _, repS_start b hd, e1, fun v B1 H1 r => q v B1 H1 ⟨r.1.bs, r.1.b0, r.1.sep0, r.1.keep0⟩ r.2⟩
    · rename_i d1 t1 e1
      cases e
      exact ⟨g, ⟨H, B⟩, B, _, t, _, repS_start b hd, e1, fun σ B1 H1 r => q _ B1 H1 ⟨r.bs, r.b0, r.sep0, r.keep0⟩ .non⟩
    · cases e
/-- .. that hands back a fresh value -/
def spFF (K : PySem.W.Frag) (n : Nat) (φ : SF) : Sp := fun vs H Q E => ∃ g B ds t d t', vs.length = n ∧ Base g B H t ∧ HdL K g B vs ds ∧ φ ds t = some (d, t') ∧
  ∀ p B' H', Step g B H t' B' H' → H p = none → B' p = none → OwnAt K g B' H' p d → Q (.ref p) H'
def fnSemF (N : Nat) (f : SS) : SF := fun ds t => match f (startE N ds) t with
  | some (.rt d t') => some (d, t')
  | _ => none
theorem fn_okF {x qual : Str} {st : Stmt} {f : Addr} {fd : FuncData} {N ps : List Str} {k : Nat} {body : SS} {o : List Nat} (F : Fun K x qual st f fd) (S : FnScope N ps (defScope st))
    (hb : ∀ (cdv : Value) (A : Around) (outer : List PySem.Env) (s : Shared) (H : Hp) (E : XK), Room k (A.deeper (envOfC qual (defScope st) s.heap.objs.size f cdv)) →
      ESs (cxOf CX0 P w K mg base N qual (defScope st) f cdv A outer s H E).nox (RetF K) [] (defBody st) body o) : FnOk P w K mg base CX0 (k + 1) f fd ps (spFF K ps.length (fnSemF N.length body)) := by
  refine F.ok S (fun vs H Q E h => ?_) (fun cdv A outer s H vs Q E hr h => ?_)
  · obtain ⟨g, B, ds, t, d, t', h, _⟩ := h
    exact h
  · refine ⟨_, (hb cdv A outer s H E hr).pss, ?_⟩
    obtain ⟨g, B, ds, t, d, t', hl, b, hd, e, q⟩ := h
    unfold fnSemF at e
    split at e
    · rename_i d1 t1 e1
      cases e
      refine ⟨g, ⟨H, B⟩, B, _, t, _, repS_start b hd, e1, fun v B1 H1 r => ?_⟩
      obtain ⟨r, p, rfl, h1, h2, h3, h4⟩ := r
      exact q p B1 H1 ⟨r.bs, r.b0, r.sep0, r.keep0⟩ h3 h2 h4
    · cases e
structure FnAtF (P : Program) (w : World) (K : PySem.W.Frag) (mg : Str → Option Value) (base : Heap) (k : Nat) (x : Str) (n : Nat) (φ : SF) : Prop where
  ex : ∃ f fd ps, FnOk P w K mg base CX0 k f fd ps (spFF K n φ) ∧ mg x = some (.ref f) ∧ PySem.W.keepIn K (.ref f) = true ∧ Binds K fd ps []
theorem FnAtF.mono {j k : Nat} {x n φ} (h : FnAtF P w K mg base j x n φ) (l : j ≤ k) : FnAtF P w K mg base k x n φ := by
  obtain ⟨f, fd, ps, h1, h2⟩ := h.ex
  exact ⟨f, fd, ps, h1.mono l, h2⟩
theorem FnAtF.at {k : Nat} {x n φ} (h : FnAtF P w K mg base k x n φ) : FnAt P w K mg base k x n φ := by
  obtain ⟨f, fd, ps, h1, h2⟩ := h.ex
  refine ⟨f, fd, ps, h1.imp fun vs H Q E h => ?_, h2⟩
  obtain ⟨g, B, ds, t, d, t', hl, b, hd, e, q⟩ := h
  refine ⟨g, B, ds, t, d, t', hl, b, hd, e, fun p B' H' s hp bp ow => ?_⟩
  obtain ⟨B2, s2, h2⟩ := s.own b hp bp ow
  exact q _ B2 H' s2 h2
/-- another function of the same values -/
theorem FnAt.eq {k : Nat} {x n} {φ ψ : SF} (h : FnAt P w K mg base k x n φ) (e : ∀ ds t r, ψ ds t = some r → φ ds t = some r) : FnAt P w K mg base k x n ψ := by
  obtain ⟨f, fd, ps, h1, h2⟩ := h.ex
  refine ⟨f, fd, ps, h1.imp fun vs H Q E h => ?_, h2⟩
  obtain ⟨g, B, ds, t, d, t', hl, b, hd, ee, q⟩ := h
  exact ⟨g, B, ds, t, d, t', hl, b, hd, e _ _ _ ee, q⟩
theorem FnAtF.eq {k : Nat} {x n} {φ ψ : SF} (h : FnAtF P w K mg base k x n φ) (e : ∀ ds t r, ψ ds t = some r → φ ds t = some r) : FnAtF P w K mg base k x n ψ := by
  obtain ⟨f, fd, ps, h1, h2⟩ := h.ex
  refine ⟨f, fd, ps, h1.imp fun vs H Q E h => ?_, h2⟩
  obtain ⟨g, B, ds, t, d, t', hl, b, hd, ee, q⟩ := h
  exact ⟨g, B, ds, t, d, t', hl, b, hd, e _ _ _ ee, q⟩
end
end PP

namespace PP
open PySem PySem.Spec PyProof.Rows L2

/-! ### targets -/
def setsV : Sg → List Nat → List V → Sg
  | σ, i :: is, v :: vs => setsV (σ.set i (some v)) is vs
  | σ, _, _ => σ
def setsE : Env → List Nat → List D → Env
  | e, i :: is, d :: ds => setsE (e.set i (some d)) is ds
  | e, _, _ => e
theorem setsV_app : ∀ (is js : List Nat) (σ : Sg) (vs ws : List V), vs.length = is.length → setsV σ (is ++ js) (vs ++ ws) = setsV (setsV σ is vs) js ws
  | [], js, σ, [], ws, _ => by cases js <;> cases ws <;> rfl
  | i :: is, js, σ, v :: vs, ws, h => setsV_app is js (σ.set i (some v)) vs ws (by simpa using h)
  | [], _, _, _ :: _, _, h => by simp at h
  | _ :: _, _, _, [], _, h => by simp at h
def dropO (o : List Nat) : List Nat → List Nat
  | [] => o
  | i :: is => dropO (o.filter (· ≠ i)) is
section
variable {K : PySem.W.Frag} {g : G} {fg : FG} {o : List Nat} {B H : Hp} {t : T}
theorem RepS.sets : ∀ (is : List Nat) (vs : List V) (ds : List D) (o : List Nat) (σ : Sg) (env : Env), RepS K g fg o B H σ env t → HdL K g B vs ds → ds.length = is.length → RepS K g fg (dropO o is) B H (setsV σ is vs) (setsE env is ds) t
  | [], _, [], _, _, _, r, h, _ => by cases h; exact r
  | i :: is, v :: vs, d :: ds, o, σ, env, r, h, l => by
    cases h with
    | cons h1 h2 => exact RepS.sets is vs ds _ (σ.set i (some v)) (env.set i (some d)) (r.set h1) h2 (by simpa using l)
  | _ :: _, [], _ :: _, _, _, _, _, h, _ => by cases h
  | [], _, _ :: _, _, _, _, _, _, l => by simp at l
  | _ :: _, _, [], _, _, _, _, _, l => by simp at l
theorem Rep.set {σ : Sg} {env : Env} {i : Nat} {v : V} {d : D} (r : Rep K g B H σ env t) (h : Hd K g B v d) : Rep K g B H (σ.set i (some v)) (env.set i (some d)) t :=
  ⟨r.bs, by rw [List.length_set, List.length_set]; exact r.len, fun j e ej => by
    by_cases hij : i = j
    · subst hij
      have hl2 : i < env.length := by
        rcases Nat.lt_or_ge i env.length with z | z
        · exact z
        · rw [List.getElem?_eq_none (by simpa using z)] at ej; cases ej
      rw [List.getElem?_set_self hl2] at ej
      cases ej
      exact ⟨v, List.getElem?_set_self (by rw [← r.len]; exact hl2), h⟩
    · rw [List.getElem?_set_ne hij] at ej
      obtain ⟨w, h1, h2⟩ := r.vars j e ej
      exact ⟨w, by rw [List.getElem?_set_ne hij]; exact h1, h2⟩⟩
theorem Rep.sets : ∀ (is : List Nat) (vs : List V) (ds : List D) (σ : Sg) (env : Env), Rep K g B H σ env t → HdL K g B vs ds → ds.length = is.length → Rep K g B H (setsV σ is vs) (setsE env is ds) t
  | [], _, [], _, _, r, h, _ => by cases h; exact r
  | i :: is, v :: vs, d :: ds, σ, env, r, h, l2 => by
    cases h with
    | cons h1 h2 => exact Rep.sets is vs ds (σ.set i (some v)) (env.set i (some d)) (r.set h1) h2 (by simpa using l2)
  | _ :: _, [], _ :: _, _, _, _, h, _ => by cases h
  | [], _, _ :: _, _, _, _, _, l => by simp at l
  | _ :: _, _, [], _, _, _, _, l => by simp at l
/-- another base to look back at -/
theorem RepS.rebase {σ : Sg} {env : Env} (r : RepS K g fg o B H σ env t) : RepS K g ⟨fg.H0, B⟩ o B H σ env t := ⟨r.bs, r.len, r.vars, r.own, r.sep, r.keep0, .refl _, fun _ _ h => h, r.t0, r.bs.tb⟩
theorem RepS.unbase {σ σ' : Sg} {env env' : Env} {B' H' : Hp} {t' : T} {o' : List Nat} (r : RepS K g fg o B H σ env t) (q : RepS K g ⟨fg.H0, B⟩ o' B' H' σ' env' t') : RepS K g fg o' B' H' σ' env' t' :=
  ⟨q.bs, q.len, q.vars, q.own, q.sep, q.keep0, r.b0.trans q.b0, fun b h1 h2 => q.sep0 b h1 (r.sep0 b h1 h2), r.t0, r.tb0⟩
end
abbrev SG := D → Option (List D)
/-- held, or (w) a tuple whose object isn't known: it is only taken apart -/
def HdX (K : PySem.W.Frag) (g : G) (B : Hp) (w : Bool) (v : V) (d : D) : Prop := Hd K g B v d ∨ (w = true ∧ ∃ a xs ds, v = .ref a ∧ d = .tuple ds ∧ SqT K B a xs ∧ HdL K g B xs ds)
def tGt (K : PySem.W.Frag) (is : List Nat) (sp : SG) (w : Bool) : TG := fun v σ H Q => ∃ g B d ds, Sub B H ∧ HdX K g B w v d ∧ sp d = some ds ∧ ∀ vs, HdL K g B vs ds → Q (setsV σ is vs) H
def tGts (K : PySem.W.Frag) (is : List Nat) (sp : List D → Option (List D)) : TGs := fun vs σ H Q => ∃ g B d ds, Sub B H ∧ HdL K g B vs d ∧ sp d = some ds ∧ ∀ vs, HdL K g B vs ds → Q (setsV σ is vs) H
structure EG (X : Cx) (tg : Expr) (is : List Nat) (sp : SG) (w : Bool) : Prop where
  pg : PG X tg (tGt X.K is sp w)
  len : ∀ d ds, sp d = some ds → ds.length = is.length
structure EGs (X : Cx) (tg : List Expr) (is : List Nat) (sp : List D → Option (List D)) : Prop where
  pgs : PGs X tg (tGts X.K is sp)
  len : ∀ d ds, sp d = some ds → ds.length = is.length
theorem pg_weak {X : Cx} {tg : Expr} {t t' : TG} (h : PG X tg t) (w : ∀ v σ H Q, t' v σ H Q → t v σ H Q) : PG X tg t' := ⟨fun pins s σ H v u Q I r q => h.run pins s σ H v u Q I r (w v σ H Q q)⟩
theorem pgs_weak {X : Cx} {tg : List Expr} {t t' : TGs} (h : PGs X tg t) (w : ∀ v σ H Q, t' v σ H Q → t v σ H Q) : PGs X tg t' := ⟨fun pins s σ H v u Q I r q => h.run pins s σ H v u Q I r (w v σ H Q q)⟩
section
variable {X : Cx} {pos : Pos}
def spN : SG := fun d => some [d]
theorem eg_name (i : Nat) {x : Str} (hN : X.N.Nodup) (hi : X.N[i]? = some x := by rfl) (hx : Loc X.env.scope x := by first | exact Or.inl rfl | exact Or.inr rfl)
    (hf : X.fn x = true ∨ X.env.scope.names.lookup x = some .local := by first | exact .inl rfl | exact .inr rfl) : EG X (.Name x pos) [i] spN false := by
  refine ⟨pg_weak (pg_name hN hi hx hf) fun v σ H Q h => ?_, fun d ds h => by cases h; rfl⟩
  obtain ⟨g, B, d, ds, s, h1, h2, q⟩ := h
  cases h2
  rcases h1 with h1 | ⟨z, _⟩
  · exact q [v] (.cons h1 .nil)
  · cases z
def spsNil : List D → Option (List D) := fun ds => match ds with
  | [] => some []
  | _ => none
def spsCons (sp : SG) (sps : List D → Option (List D)) : List D → Option (List D) := fun ds => match ds with
  | d :: r => match sp d with
    | some p => match sps r with
      | some q => some (p ++ q)
      | none => none
    | none => none
  | [] => none
def spT (sps : List D → Option (List D)) : SG := fun d => match d with
  | .tuple ds => sps ds
  | _ => none
theorem egs_nil : EGs X [] [] spsNil := by
  refine ⟨pgs_weak pgs_nil fun vs σ H Q h => ?_, fun d ds h => ?_⟩
  · obtain ⟨g, B, d, ds, s, h1, h2, q⟩ := h
    unfold spsNil at h2
    split at h2
    · cases h2
      cases h1
      exact ⟨rfl, q [] .nil⟩
    · cases h2
  · unfold spsNil at h
    split at h <;> cases h
    rfl
theorem HdL.split {K : PySem.W.Frag} {g : G} {B : Hp} : ∀ {ds es : List D} {vs : List V}, HdL K g B vs (ds ++ es) → ∃ v1 v2, vs = v1 ++ v2 ∧ HdL K g B v1 ds ∧ HdL K g B v2 es
  | [], es, vs, h => ⟨[], vs, rfl, .nil, h⟩
  | d :: ds, es, vs, h => by
    cases h with
    | cons h1 h2 =>
      obtain ⟨v1, v2, e, k1, k2⟩ := HdL.split h2
      exact ⟨_ :: v1, v2, by rw [e]; rfl, .cons h1 k1, k2⟩
theorem egs_cons {e : Expr} {es : List Expr} {is js : List Nat} {sp : SG} {sps : List D → Option (List D)} {w : Bool} (h1 : EG X e is sp w) (h2 : EGs X es js sps)
    (hs : (assignEach (e :: es) X.env).map (·.2) = assign e X.env :: (assignEach es X.env).map (·.2) := by rfl) : EGs X (e :: es) (is ++ js) (spsCons sp sps) := by
  refine ⟨pgs_weak (pgs_cons h1.pg h2.pgs hs) fun vs σ H Q h => ?_, fun d ds h => ?_⟩
  · obtain ⟨g, B, d, ds, s, k1, k2, q⟩ := h
    unfold spsCons at k2
    split at k2
    · rename_i d0 r
      split at k2
      · rename_i p e1
        split at k2
        · rename_i q2 e2
          cases k2
          cases k1 with
          | cons k1 k3 =>
            refine ⟨_, _, rfl, g, B, d0, p, s, .inl k1, e1, fun v1 l1 => ?_⟩
            refine ⟨g, B, r, q2, s, k3, e2, fun v2 l2 => ?_⟩
            rw [← setsV_app is js σ v1 v2 (by rw [l1.len]; exact h1.len _ _ e1)]
            exact q _ (l1.app l2)
        · cases k2
      · cases k2
    · cases k2
  · unfold spsCons at h
    split at h
    · split at h
      · rename_i e1
        split at h
        · rename_i e2
          cases h
          rw [List.length_append, List.length_append, h1.len _ _ e1, h2.len _ _ e2]
        · cases h
      · cases h
    · cases h
theorem eg_tup {w : Bool} {es : List Expr} {k n : Nat} {is : List Nat} {sps : List D → Option (List D)} (hc : X.calm = true) (h : EGs X es is sps) (hs : ∀ d ds, sps d = some ds → d.length = n)
    (hn : (assignEach es X.env).length = n := by rfl) (hst : (assignEach es X.env).findIdx? (·.1) = none := by rfl) : EG X (.Tuple es k pos) is (spT sps) w := by
  refine ⟨pg_weak (pg_tup hc h.pgs hn hst) fun v σ H Q q => ?_, fun d ds h' => ?_⟩
  · obtain ⟨g, B, d, ds, s, k1, k2, q⟩ := q
    unfold spT at k2
    split at k2
    · rename_i ds'
      rcases k1 with k1 | ⟨_, a, xs, ds2, rfl, e2, h1, h2⟩
      · cases k1 with
        | tup h1 h2 => exact ⟨_, _, rfl, s.sqt h1.sq, by rw [h2.len]; exact hs _ _ k2, g, B, ds', ds, s, h2, k2, q⟩
      · cases e2
        exact ⟨_, _, rfl, s.sqt h1, by rw [h2.len]; exact hs _ _ k2, g, B, ds', ds, s, h2, k2, q⟩
    · cases k2
  · unfold spT at h'
    split at h'
    · exact h.len _ _ h'
    · cases h'
theorem spsNil_len : ∀ d ds, spsNil d = some ds → d.length = 0 := fun d ds h => by unfold spsNil at h; split at h <;> cases h; rfl
theorem spsCons_len {sp : SG} {sps : List D → Option (List D)} {n : Nat} (hs : ∀ d ds, sps d = some ds → d.length = n) : ∀ d ds, spsCons sp sps d = some ds → d.length = n + 1 := fun d ds h => by
  unfold spsCons at h
  split at h
  · split at h
    · split at h
      · rename_i e2
        rw [List.length_cons, hs _ _ e2]
      · cases h
    · cases h
  · cases h

/-! ### stores to patterns -/
variable {o : List Nat} {e tg : Expr} {f : SE} {R : RT}
def sBind (is : List Nat) (sp : SG) (f : SE) : SS := fun e t => match f e t with
  | some (d, t') => match sp d with
    | some ds => some (.nx (setsE e is ds) t')
    | none => none
  | none => none
theorem es_bind {is : List Nat} {sp : SG} {w : Bool} {o' : List Nat} (h : EVS X o e f) (hg : EG X tg is sp w) (ho : dropO o is = o' := by rfl) (hs : swapsWithSole [tg] e pos.line X.env = pure false := by rfl) (hw : swappedStores [tg] e X.env = pure none := by rfl)
    (h1 : (assignEach [tg] X.env).map (·.2) = [assign tg X.env] := by rfl) : ES X R o (.Assign [tg] e pos) (sBind is sp f) o' := ⟨ps_weak (ps_asg h.pe hg.pg hs hw h1) fun E σ H h => by
  obtain ⟨g, fg, B, env, t, r, rp, e, q⟩ := h
  subst ho
  unfold sBind at e
  split at e
  · rename_i d t' ef
    split at e
    · rename_i ds es
      cases e
      refine ⟨g, fg, B, env, t, d, t', rp, ef, fun v B' H' r1 _ h1 => ?_⟩
      exact ⟨g, B', d, ds, r1.bs.sub, .inl h1, es, fun vs hv => q _ B' H' (RepS.sets _ _ _ _ _ _ r1 hv (hg.len _ _ es))⟩
    · cases e
  · cases e⟩
/-- a, b = x, y, plain names -/
def sPar (is : List Nat) (f : SA) : SS := fun e t => match f e t with
  | some (ds, t') => if ds.length = is.length then some (.nx (setsE e is ds) t') else none
  | none => none
structure EAS (X : Cx) (o : List Nat) (es : List Expr) (f : SA) : Prop where
  pa : PA X es (fun (σ : Sg) H Q => ∃ g fg B env t ds t', RepS X.K g fg o B H σ env t ∧ f env t = some (ds, t') ∧ ∀ vs B' H', RepS X.K g fg o B' H' σ env t' → HdL X.K g B' vs ds → Q vs H')
theorem eas {es : List Expr} {f : SA} (h : EA X es f) : EAS X [] es f := ⟨pa_weak h.pa fun σ H Q h => by
  obtain ⟨g, fg, B, env, t, d, t', r, e, q⟩ := h
  exact ⟨g, B, env, t, d, t', r.rep0, e, fun v B' H' s h => q v B' H' (r.step s) h⟩⟩
theorem easV {es : List Expr} {f : SA} (h : EA X es f) : EAS X o es (fun e t => f (hide o e) t) := ⟨pa_weak h.pa fun σ H Q h => by
  obtain ⟨g, fg, B, env, t, d, t', r, e, q⟩ := h
  exact ⟨g, B, hide o env, t, d, t', r.rep, e, fun v B' H' s h => q v B' H' (r.step s) h⟩⟩
theorem es_par {i j : Nat} {o' : List Nat} {x y : Str} {a b : Expr} {f : SA} {px py pt : Pos} {kt k2 pt2} (ha : EAS X o [a, b] f) (hc : X.calm = true) (hN : X.N.Nodup) (hij : i ≠ j := by decide) (hi : X.N[i]? = some x := by rfl) (hj : X.N[j]? = some y := by rfl)
    (ho : dropO o [i, j] = o' := by rfl)
    (hx : X.env.scope.names.lookup x = some .local := by rfl) (hy : X.env.scope.names.lookup y = some .local := by rfl)
    (hw : swappedStores [.Tuple [.Name x px, .Name y py] kt pt] (.Tuple [a, b] k2 pt2) X.env = pure (some [x, y]) := by rfl)
    (hs : swapsWithSole [.Tuple [.Name x px, .Name y py] kt pt] (.Tuple [a, b] k2 pt2) pos.line X.env = pure false := by rfl) :
    ES X R o (.Assign [.Tuple [.Name x px, .Name y py] kt pt] (.Tuple [a, b] k2 pt2) pos) (sPar [i, j] f) o' := ⟨ps_weak (ps_par hc hN hi hj hij hx hy ha.pa hw hs) fun E σ H h => by
  obtain ⟨g, fg, B, env, t, r, rp, e, q⟩ := h
  subst ho
  unfold sPar at e
  split at e
  · rename_i ds t' ef
    split at e
    · rename_i hl
      cases e
      refine ⟨g, fg, B, env, t, ds, t', rp, ef, fun vs B' H' r1 h1 => ?_⟩
      have l := h1.len
      match vs, h1 with
      | [v, w], h1 => exact ⟨v, w, rfl, q _ B' H' (RepS.sets _ _ _ _ _ _ r1 h1 hl)⟩
      | [], h1 => rw [hl] at l; simp at l
      | [_], h1 => rw [hl] at l; simp at l
      | _ :: _ :: _ :: _, h1 => rw [hl] at l; simp at l
    · cases e
  · cases e⟩
theorem es_par3 {i j l : Nat} {o' : List Nat} {x y z : Str} {a b c : Expr} {f : SA} {px py pz pt : Pos} {kt k2 pt2} (ha : EAS X o [a, b, c] f) (hc : X.calm = true) (hN : X.N.Nodup) (hij : i ≠ j := by decide) (hil : i ≠ l := by decide) (hjl : j ≠ l := by decide) (hi : X.N[i]? = some x := by rfl) (hj : X.N[j]? = some y := by rfl)
    (hll : X.N[l]? = some z := by rfl) (ho : dropO o [i, j, l] = o' := by rfl)
    (hx : X.env.scope.names.lookup x = some .local := by rfl) (hy : X.env.scope.names.lookup y = some .local := by rfl) (hz : X.env.scope.names.lookup z = some .local := by rfl)
    (hw : swappedStores [.Tuple [.Name x px, .Name y py, .Name z pz] kt pt] (.Tuple [a, b, c] k2 pt2) X.env = pure (some [x, y, z]) := by rfl)
    (hs : swapsWithSole [.Tuple [.Name x px, .Name y py, .Name z pz] kt pt] (.Tuple [a, b, c] k2 pt2) pos.line X.env = pure false := by rfl) :
    ES X R o (.Assign [.Tuple [.Name x px, .Name y py, .Name z pz] kt pt] (.Tuple [a, b, c] k2 pt2) pos) (sPar [i, j, l] f) o' := ⟨ps_weak (ps_par3 hc hN hi hj hll hij hil hjl hx hy hz ha.pa hw hs) fun E σ H h => by
  obtain ⟨g, fg, B, env, t, r, rp, e, q⟩ := h
  subst ho
  unfold sPar at e
  split at e
  · rename_i ds t' ef
    split at e
    · rename_i hl
      cases e
      refine ⟨g, fg, B, env, t, ds, t', rp, ef, fun vs B' H' r1 h1 => ?_⟩
      have l := h1.len
      match vs, h1 with
      | [v, w, u], h1 => exact ⟨v, w, u, rfl, q _ B' H' (RepS.sets _ _ _ _ _ _ r1 h1 hl)⟩
      | [], h1 => rw [hl] at l; simp at l
      | [_], h1 => rw [hl] at l; simp at l
      | [_, _], h1 => rw [hl] at l; simp at l
      | _ :: _ :: _ :: _ :: _, h1 => rw [hl] at l; simp at l
    · cases e
  · cases e⟩

/-! ### what is walked -/
structure Walks (K : PySem.W.Frag) (g : G) (B : Hp) (J : It) (ds : List D) (w : Bool) : Prop where
  go : ∀ (i : Nat) (d : D) (B2 H2 : Hp) (t2 : T), Sub B B2 → Base g B2 H2 t2 → ds[i]? = some d → J.go i H2 ∧ ∀ x H3, J.yld i H2 x H3 → ∃ B3, Step g B2 H2 t2 B3 H3 ∧ HdX K g B3 w x d
  stop : ∀ (i : Nat) (B2 H2 : Hp) (t2 : T), Sub B B2 → Base g B2 H2 t2 → ds.length ≤ i → J.stop i H2
def tI (K : PySem.W.Frag) (src : SA) (w : Bool) : TI := fun (σ : Sg) H Q => ∃ g B env t ds t', Rep K g B H σ env t ∧ src env t = some (ds, t') ∧ ∀ B' H' J, Step g B H t' B' H' → Walks K g B' J ds w → Q J H'
structure EI (X : Cx) (tg it : Expr) (src : SA) (w : Bool) : Prop where
  pi : PI X tg it (tI X.K src w)
theorem pi_weak {X : Cx} {tg it : Expr} {t t' : TI} (h : PI X tg it t) (w : ∀ σ H Q, t' σ H Q → t σ H Q) : PI X tg it t' := ⟨fun pins s σ H R I q => h.run pins s σ H R I (w σ H R q)⟩
variable {it : Expr} {w : Bool}
def iSeq (f : SE) : SA := fun e t => match f e t with
  | some (.list ds, t') => some (ds, t')
  | some (.tuple ds, t') => some (ds, t')
  | _ => none
def iLst (f : SE) : SA := fun e t => match f e t with
  | some (.list ds, t') => some (ds, t')
  | _ => none
def iTupl (f : SE) : SA := fun e t => match f e t with
  | some (.tuple ds, t') => some (ds, t')
  | _ => none
theorem ei_list (h : EV X it f) : EI X tg it (iLst f) w := ⟨pi_weak (pi_list h.pe) fun σ H Q h => by
  obtain ⟨g, B, env, t, ds, t', r, e, q⟩ := h
  unfold iLst at e
  split at e
  · rename_i ds' t1 ef
    cases e
    refine ⟨g, B, env, t, _, _, r, ef, fun v B1 H1 s1 h1 => ?_⟩
    cases h1 with
    | @lst a xs _ h1 h2 =>
      refine ⟨a, rfl, ⟨xs, SqL.of (s1.bs.sub _ _ h1)⟩, q B1 H1 _ s1 ⟨fun i d B2 H2 t2 sb b e => ?_, fun i B2 H2 t2 sb b hl => ⟨xs, SqL.of (b.sub _ _ (sb _ _ h1)), by rw [h2.len]; exact hl⟩⟩⟩
      obtain ⟨v, e1, e2⟩ := h2.get e
      refine ⟨⟨xs, v, SqL.of (b.sub _ _ (sb _ _ h1)), e1⟩, fun x H3 y => ?_⟩
      obtain ⟨rfl, y⟩ := y
      have := y xs (SqL.of (b.sub _ _ (sb _ _ h1)))
      rw [e1] at this
      cases this
      exact ⟨B2, .refl b, .inl (e2.mono sb)⟩
  · cases e⟩
theorem ei_tup (h : EV X it f) : EI X tg it (iTupl f) w := ⟨pi_weak (pi_tup h.pe) fun σ H Q h => by
  obtain ⟨g, B, env, t, ds, t', r, e, q⟩ := h
  unfold iTupl at e
  split at e
  · rename_i ds' t1 ef
    cases e
    refine ⟨g, B, env, t, _, _, r, ef, fun v B1 H1 s1 h1 => ?_⟩
    cases h1 with
    | @tup a xs _ h1 h2 =>
      refine ⟨a, rfl, ⟨xs, s1.bs.sub.sqt h1.sq⟩, q B1 H1 _ s1 ⟨fun i d B2 H2 t2 sb b e => ?_, fun i B2 H2 t2 sb b hl => ⟨xs, b.sub.sqt (sb.sqt h1.sq), by rw [h2.len]; exact hl⟩⟩⟩
      obtain ⟨v, e1, e2⟩ := h2.get e
      refine ⟨⟨xs, v, b.sub.sqt (sb.sqt h1.sq), e1⟩, fun x H3 y => ?_⟩
      obtain ⟨rfl, y⟩ := y
      have := y xs (b.sub.sqt (sb.sqt h1.sq))
      rw [e1] at this
      cases this
      exact ⟨B2, .refl b, .inl (e2.mono sb)⟩
  · cases e⟩
def rng (lo : Int) (n : Nat) : List D := (List.range n).map fun (i : Nat) => .int (lo + i)
theorem rng_get {lo : Int} {n i : Nat} {d : D} (h : (rng lo n)[i]? = some d) : i < n ∧ d = .int (lo + i) := by
  unfold rng at h
  rw [List.getElem?_map] at h
  by_cases hi : i < n
  · rw [List.getElem?_range hi] at h
    cases h
    exact ⟨hi, rfl⟩
  · rw [List.getElem?_eq_none (by simpa using hi)] at h
    cases h
theorem walks_range {w : Bool} {K : PySem.W.Frag} {g : G} {B : Hp} {lo : Int} {n : Nat} : Walks K g B (Itr lo n) (rng lo n) w := ⟨fun i d B2 H2 t2 sb b e => by
  obtain ⟨h1, rfl⟩ := rng_get e
  exact ⟨h1, fun x H3 y => by obtain ⟨rfl, rfl⟩ := y; exact ⟨B2, .refl b, .inl (.int _)⟩⟩, fun i B2 H2 t2 sb b hl => by
  have : (rng lo n).length = n := by unfold rng; rw [List.length_map, List.length_range]
  rw [this] at hl
  exact hl⟩
def okI (j : Int) : Bool := leN j 4611686018427387903
theorem okI_ok {j : Int} (h : okI j = true) : -(2 ^ 62) ≤ j ∧ j < 2 ^ 62 := by
  have := leN_ok h
  omega
def iR1 (f : SE) : SA := fun e t => match f e t with
  | some (.int j, t') => if okI j = true then some (rng 0 j.toNat, t') else none
  | _ => none
def iR2 (f h : SE) : SA := fun e t => match f e t with
  | some (.int i, t1) => match h e t1 with
    | some (.int j, t') => if okI i = true ∧ okI j = true then some (rng i (j - i).toNat, t') else none
    | _ => none
  | _ => none
variable {a b : Expr} {fa fb : SE} {p : Pos}
theorem ei_range1 (ha : EV X a fa) (hm : X.mg "range" = none) (hg : Gl X "range" := by rfl) (hs : starEach [a] X.env = [(false, eval a X.env)] := by rfl) : EI X tg (.Call (.Name "range" p) [a] [] pos) (iR1 fa) w :=
  ⟨pi_weak (pi_range1 hg hm (pa_cons ha.pe pa_nil hs) hs) fun σ H Q h => by
  obtain ⟨g, B, env, t, ds, t', r, e, q⟩ := h
  unfold iR1 at e
  split at e
  · rename_i j t1 ef
    split at e
    · rename_i hj
      cases e
      exact ⟨g, B, env, t, _, _, r, ef, fun v B1 H1 s1 h1 => by cases h1; exact ⟨j, rfl, (okI_ok hj).1, (okI_ok hj).2, q B1 H1 _ s1 walks_range⟩⟩
    · cases e
  · cases e⟩
theorem ei_range2 (ha : EV X a fa) (hb : EV X b fb) (hm : X.mg "range" = none) (hg : Gl X "range" := by rfl) (hs : starEach [a, b] X.env = [(false, eval a X.env), (false, eval b X.env)] := by rfl) (hs2 : starEach [b] X.env = [(false, eval b X.env)] := by rfl) :
    EI X tg (.Call (.Name "range" p) [a, b] [] pos) (iR2 fa fb) w :=
  ⟨pi_weak (pi_range2 hg hm (pa_cons ha.pe (pa_cons hb.pe pa_nil hs2) (by rw [hs, hs2])) hs hs2) fun σ H Q h => by
  obtain ⟨g, B, env, t, ds, t', r, e, q⟩ := h
  unfold iR2 at e
  split at e
  · rename_i i t1 ef
    split at e
    · rename_i j t2 eh
      split at e
      · rename_i hj
        cases e
        exact ⟨g, B, env, t, _, _, r, ef, fun v B1 H1 s1 h1 => ⟨g, B1, env, t1, _, _, r.step s1, eh, fun w B2 H2 s2 h2 => by
          cases h1; cases h2
          exact ⟨i, j, rfl, ⟨(okI_ok hj.1).1, (okI_ok hj.1).2, okI_ok hj.2⟩, q B2 H2 _ (s1.trans r.bs s2) walks_range⟩⟩⟩
      · cases e
    · cases e
  · cases e⟩
def enumD (ds : List D) : List D := ds.mapIdx fun (i : Nat) d => .tuple [.int i, d]
def iEnu (f : SE) : SA := fun e t => match f e t with
  | some (.list ds, t') => some (enumD ds, t')
  | _ => none
theorem enumD_get {ds : List D} {i : Nat} {d : D} (h : (enumD ds)[i]? = some d) : ∃ e, ds[i]? = some e ∧ d = .tuple [.int i, e] := by
  unfold enumD at h
  rw [List.getElem?_mapIdx] at h
  cases q : ds[i]? with
  | none => rw [q] at h; cases h
  | some e => rw [q] at h; cases h; exact ⟨e, rfl, rfl⟩
theorem ei_enum {elts : List Expr} {kk : Nat} {tpos : Pos} (ha : EV X a fa) (hm : X.mg "enumerate" = none) (hg : Gl X "enumerate" := by rfl) (hs : starEach [a] X.env = [(false, eval a X.env)] := by rfl) :
    EI X (.Tuple elts kk tpos) (.Call (.Name "enumerate" p) [a] [] pos) (iEnu fa) true := ⟨pi_weak (pi_enum hg hm (pa_cons ha.pe pa_nil hs) hs) fun σ H Q h => by
  obtain ⟨g, B, env, t, ds, t', r, e, q⟩ := h
  unfold iEnu at e
  split at e
  · rename_i ds' t1 ef
    cases e
    refine ⟨g, B, env, t, _, _, r, ef, fun v B1 H1 s1 h1 => ?_⟩
    cases h1 with
    | @lst a xs _ h1 h2 =>
      refine ⟨a, xs, rfl, SqL.of (s1.bs.sub _ _ h1), q B1 H1 _ s1 ⟨fun i d B2 H2 t2 sb b e => ?_, fun i B2 H2 t2 sb b hl => ⟨xs, SqL.of (b.sub _ _ (sb _ _ h1)), by
        rw [h2.len]; unfold enumD at hl; rw [List.length_mapIdx] at hl; exact hl⟩⟩⟩
      obtain ⟨e0, ee, rfl⟩ := enumD_get e
      obtain ⟨v, e1, e2⟩ := h2.get ee
      refine ⟨⟨xs, v, SqL.of (b.sub _ _ (sb _ _ h1)), e1⟩, fun x H3 y => ?_⟩
      obtain ⟨T, x', rfl, nT, rfl, y⟩ := y
      have := y xs (SqL.of (b.sub _ _ (sb _ _ h1)))
      rw [e1] at this
      cases this
      have s := Step.new (o := .tup [.int (i : Nat), v]) b nT
      exact ⟨_, s, .inr ⟨rfl, T, _, _, rfl, rfl, .inl (.inl upd_same), .cons (.int _) (.cons ((e2.mono sb).mono s.b1) .nil)⟩⟩
  · cases e⟩

/-! ### for -/
def loopS (is : List Nat) (sp : SG) (body : SS) : List D → SS
  | [], e, t => some (.nx e t)
  | x :: xs, e, t => match sp x with
    | none => none
    | some ds => match body (setsE e is ds) t with
      | some (.nx e2 t2) => loopS is sp body xs e2 t2
      | some (.rt d t2) => some (.rt d t2)
      | none => none
def sFor (src : SA) (is : List Nat) (sp : SG) (body : SS) : SS := fun e t => match src e t with
  | some (ds, t') => loopS is sp body ds e t'
  | none => none
/-- the walked thing in a statement: own names aren't read -/
theorem es_forO {is : List Nat} {sp : SG} {body : List Stmt} {src : SA} {fb : SS} {o' : List Nat} (hi : EI X tg it src w) (hg : EG X tg is sp w) (hb : ESs X R o' body fb o) (hc : X.calm = true) (hp : PassesOwn (model X.prog X.w) X.A X.env X.xe) (ho : dropO o is = o' := by rfl)
    (hs : ∀ x, foldedSetIterable it X.env x = pure x := by intro _; rfl) : ES X R o (.For tg it body [] pos) (sFor (fun e t => src (hide o e) t) is sp fb) o := ⟨ps_weak (ps_for hp hc hi.pi hg.pg hb.pss hs) fun E σ H h => by
  obtain ⟨g, fg, B, env, t, r, rp, e, q⟩ := h
  subst ho
  unfold sFor at e
  split at e
  · rename_i ds t' ef
    refine ⟨g, B, hide o env, t, ds, t', rp.rep, ef, fun B1 H1 J s1 wk => ?_⟩
    refine ⟨fun i m σ H => m = ds.length - i ∧ ∃ B2 env t2, RepS X.K g fg o B2 H σ env t2 ∧ Sub B1 B2 ∧ loopS is sp fb (ds.drop i) env t2 = some r, ⟨ds.length, by simp, B1, env, t', rp.step s1, .refl _, e⟩, ?_⟩
    rintro i m σ2 H2 ⟨rfl, B2, env2, t2, r2, sb, e2⟩
    by_cases hi : i < ds.length
    · refine .inr ?_
      have ed : ds.drop i = ds[i] :: ds.drop (i + 1) := by rw [List.drop_eq_getElem_cons hi]
      rw [ed] at e2
      have eg : ds[i]? = some ds[i] := List.getElem?_eq_getElem hi
      obtain ⟨w1, w2⟩ := wk.go i _ B2 H2 t2 sb r2.bs eg
      refine ⟨w1, fun σ' H' => ∃ B2 env t2, RepS X.K g fg o B2 H' σ' env t2 ∧ Sub B1 B2 ∧ loopS is sp fb (ds.drop (i + 1)) env t2 = some r, fun σ' H' h => ⟨ds.length - (i + 1), by omega, rfl, h⟩, fun x H' y => ?_⟩
      obtain ⟨B3, s3, h3⟩ := w2 x H' y
      have r3 := r2.step s3
      unfold loopS at e2
      split at e2
      · cases e2
      · rename_i es esp
        refine ⟨g, B3, _, es, r3.bs.sub, h3, esp, fun vs hv => ?_⟩
        have r4 := RepS.sets _ _ _ _ _ _ r3 hv (hg.len _ _ esp)
        split at e2
        · rename_i e4 t4 eb
          exact ⟨g, ⟨fg.H0, B3⟩, B3, _, t2, _, r4.rebase, eb, fun σ5 B5 H5 r5 => ⟨B5, e4, t4, r4.unbase r5, (sb.trans s3.b1).trans r5.b0, e2⟩⟩
        · rename_i d4 t4 eb
          cases e2
          exact ⟨g, fg, B3, _, t2, _, r4, eb, q⟩
        · cases e2
    · refine .inl ⟨wk.stop i B2 H2 t2 sb r2.bs (by omega), ?_⟩
      rw [List.drop_eq_nil_of_le (by omega)] at e2
      cases e2
      exact q σ2 B2 H2 r2
  · cases e⟩
theorem es_for {is : List Nat} {sp : SG} {body : List Stmt} {src : SA} {fb : SS} (hi : EI X tg it src w) (hg : EG X tg is sp w) (hb : ESs X R [] body fb []) (hc : X.calm = true) (hp : PassesOwn (model X.prog X.w) X.A X.env X.xe) (ho : dropO [] is = [] := by rfl)
    (hs : ∀ x, foldedSetIterable it X.env x = pure x := by intro _; rfl) : ES X R [] (.For tg it body [] pos) (sFor src is sp fb) [] := es_forO hi hg hb hc hp ho hs
end
end PP

namespace PP
open PySem PySem.Spec PyProof.Rows L2

/-! ### comprehensions -/
structure ETs (X : Cx) (ifs : List Expr) (f : ST) : Prop where
  pts : PTs X ifs (tDT X.K f)
theorem pts_weak {X : Cx} {ifs : List Expr} {t t' : TT} (h : PTs X ifs t) (w : ∀ σ H Q, t' σ H Q → t σ H Q) : PTs X ifs t' :=
  ⟨fun pins s σ H Q I q => h.run pins s σ H Q I (w σ H Q q)⟩
def cYes : ST := fun _ t => some (true, t)
theorem ets_nil {X : Cx} : ETs X [] cYes := ⟨pts_weak pts_nil fun σ H Q h => by
  obtain ⟨g, B, env, t, c, t', r, e, q⟩ := h
  cases e
  exact q B H (.refl r.bs)⟩
theorem ets_one {X : Cx} {c : Expr} {f : ST} (h : ET X c f) : ETs X [c] f := ⟨pts_one h.pt⟩
def compL (is : List Nat) (sp : SG) (test : ST) (elt : SE) : List D → Env → T → Option (List D × T)
  | [], _, t => some ([], t)
  | x :: xs, e, t => match sp x with
    | none => none
    | some ds => match test (setsE e is ds) t with
      | none => none
      | some (false, t1) => compL is sp test elt xs e t1
      | some (true, t1) => match elt (setsE e is ds) t1 with
        | none => none
        | some (y, t2) => match compL is sp test elt xs e t2 with
          | none => none
          | some (ys, t3) => some (y :: ys, t3)
def cComp (src : SA) (vs is : List Nat) (sp : SG) (test : ST) (elt : SE) : SE := fun e t => match src e t with
  | some (ds, t1) => match compL is sp test elt ds (hide vs e) t1 with
    | some (ys, t2) => if ys.length ≤ LIM then some (.list ys, t2) else none
    | none => none
  | none => none
section
variable {K : PySem.W.Frag} {g : G} {B H B' H' : Hp} {t t' : T}
theorem Step.mut {p : Addr} {o : HO} (b : Base g B H t) (s : Step g B H t' B' H') (hp : H p = none) (bp : B' p = none) : Step g B H t' B' (upd H' p o) := by
  have nt : g.ta ≠ p := ne_of_none b.tp hp
  refine ⟨⟨fun c x e => ?_, by rw [upd_ne nt]; exact s.bs.tp, s.bs.tb, s.bs.cl⟩, s.b1, s.b3, fun c x hc e => ?_⟩
  · rw [upd_ne (fun z => by rw [z, bp] at e; cases e)]
    exact s.bs.sub c x e
  · rw [upd_ne (fun z => by rw [z, hp] at e; cases e)]
    exact s.h1 c x hc e
theorem wipe_get {i : Nat} {σ : Sg} : ∀ {vs : List Nat}, i ∉ vs → (wipe σ vs)[i]? = σ[i]?
  | [], _ => rfl
  | v :: vs, h => by
    unfold wipe
    simp only [List.mem_cons, not_or] at h
    rw [List.getElem?_set_ne (fun z => h.1 z.symm)]
    exact wipe_get h.2
theorem Rep.wipe {σ : Sg} {env : Env} (r : Rep K g B H σ env t) (vs : List Nat) : Rep K g B H (wipe σ vs) (hide vs env) t :=
  ⟨r.bs, by rw [hide_len, wipe_length]; exact r.len, fun i d e => by
    obtain ⟨h1, h2⟩ := hide_get e
    obtain ⟨v, k1, k2⟩ := r.vars i d h2
    exact ⟨v, by rw [wipe_get h1]; exact k1, k2⟩⟩
theorem wipe_ext {σ τ : Sg} (hl : σ.length = τ.length) : ∀ (vs : List Nat), (∀ i, i ∉ vs → σ[i]? = τ[i]?) → wipe σ vs = wipe τ vs := fun vs h => by
  apply List.ext_getElem?
  intro i
  by_cases hi : i ∈ vs
  · have key : ∀ (ρ : Sg) (vs : List Nat), i ∈ vs → (wipe ρ vs)[i]? = if i < ρ.length then some none else none := by
      intro ρ vs
      induction vs with
      | nil => intro h; cases h
      | cons v vs ih =>
        intro h
        unfold wipe
        by_cases e : v = i
        · subst e
          by_cases l : v < ρ.length
          · rw [List.getElem?_set_self (by rw [wipe_length]; exact l), if_pos l]
          · rw [List.getElem?_eq_none (by rw [List.length_set, wipe_length]; omega), if_neg l]
        · rw [List.getElem?_set_ne e]
          rcases List.mem_cons.mp h with z | z
          · exact absurd z.symm e
          · exact ih z
    rw [key σ vs hi, key τ vs hi, hl]
  · rw [wipe_get hi, wipe_get hi, h i hi]
theorem setsV_len : ∀ (is : List Nat) (σ : Sg) (vs : List V), (setsV σ is vs).length = σ.length
  | [], σ, vs => by cases vs <;> rfl
  | i :: is, σ, [] => rfl
  | i :: is, σ, v :: vs => by show (setsV (σ.set i (some v)) is vs).length = _; rw [setsV_len is, List.length_set]
theorem setsV_ne {j : Nat} : ∀ (is : List Nat) (σ : Sg) (vs : List V), j ∉ is → (setsV σ is vs)[j]? = σ[j]?
  | [], σ, vs, _ => by cases vs <;> rfl
  | i :: is, σ, [], _ => rfl
  | i :: is, σ, v :: vs, h => by
    simp only [List.mem_cons, not_or] at h
    show (setsV (σ.set i (some v)) is vs)[j]? = _
    rw [setsV_ne is _ vs h.2, List.getElem?_set_ne (fun z => h.1 z.symm)]
theorem wipe_sets {is vs : List Nat} {σ : Sg} {ws : List V} (hs : ∀ i ∈ is, i ∈ vs) : wipe (setsV (wipe σ vs) is ws) vs = wipe σ vs := by
  have h1 : wipe (wipe σ vs) vs = wipe σ vs := wipe_ext (wipe_length σ vs) vs fun i hi => wipe_get hi
  rw [wipe_ext (τ := wipe σ vs) (setsV_len _ _ _) vs fun i hi => setsV_ne is _ ws fun z => hi (hs i z)]
  exact h1
end
section
variable {X : Cx} {elt tg iter : Expr} {ifs : List Expr} {scope : Scope} {own : List (Str × Nat)} {pos : Pos} {src : SA} {is : List Nat} {sp : SG} {ft : ST} {fe : SE} {wk : Bool}
theorem tlc (hs : ∀ i ∈ is, i ∈ own.map (·.2)) (hl : ∀ d ds, sp d = some ds → ds.length = is.length) {σ : Sg} {H : Hp} {Q : VK} (h : tF X.K (cComp src (own.map (·.2)) is sp ft fe) σ H Q) :
    tLc (tI X.K src wk) (tGt X.K is sp wk) (tDT X.K ft) (tD X.K fe) (own.map (·.2)) σ H Q := by
  obtain ⟨g, B, env, t, d, t', r, e, q⟩ := h
  unfold cComp at e
  split at e
  · rename_i ds t1 es
    split at e
    · rename_i ys t2 ec
      split at e
      · rename_i hlim
        cases e
        refine ⟨g, B, env, t, ds, t1, r, es, fun B1 H1 J s1 wks Dd hD => ?_⟩
        have hHD : H Dd = none := by
          cases z : H Dd with
          | none => rfl
          | some x => exact absurd hD (s1.live r.bs (by rw [z]; exact fun z => nomatch z))
        have bD : B1 Dd = none := by
          cases z : B1 Dd with
          | none => rfl
          | some x => rw [s1.bs.sub Dd x z] at hD; cases hD
        refine ⟨fun i m H2 => m = ds.length - i ∧ ∃ B2 t2 acc accd zs, Step g B1 H1 t2 B2 H2 ∧ B2 Dd = none ∧ H2 Dd = some (.lst acc) ∧ HdL X.K g B2 acc accd ∧ compL is sp ft fe (ds.drop i) (hide (own.map (·.2)) env) t2 = some (zs, t') ∧ ys = accd ++ zs,
          ⟨ds.length, by simp, B1, t1, [], [], ys, Step.mut s1.bs (.refl s1.bs) hD bD, bD, upd_same, .nil, ec, rfl⟩, ?_⟩
        rintro i m H2 ⟨rfl, B2, t2, acc, accd, zs, s2, b2, h2, hd, ec2, rfl⟩
        by_cases hi : i < ds.length
        · refine .inr ?_
          have ed : ds.drop i = ds[i] :: ds.drop (i + 1) := by rw [List.drop_eq_getElem_cons hi]
          rw [ed] at ec2
          have eg : ds[i]? = some ds[i] := List.getElem?_eq_getElem hi
          obtain ⟨w1, w2⟩ := wks.go i _ B2 H2 t2 s2.b1 s2.bs eg
          refine ⟨w1, fun H' => ∃ B2 t2 acc accd' zs, Step g B1 H1 t2 B2 H' ∧ B2 Dd = none ∧ H' Dd = some (.lst acc) ∧ HdL X.K g B2 acc accd' ∧ compL is sp ft fe (ds.drop (i + 1)) (hide (own.map (·.2)) env) t2 = some (zs, t') ∧ accd ++ _ = accd' ++ zs, fun H' h => ⟨ds.length - (i + 1), by omega, rfl, h⟩, fun x H' y => ?_⟩
          obtain ⟨B3, s3, h3⟩ := w2 x H' y
          have hD3 : H2 Dd ≠ none := by rw [h2]; exact fun z => nomatch z
          have nta : Dd ≠ g.ta := fun z => by rw [z, s2.bs.tp] at h2; injection h2 with h2; rw [z, s1.bs.tp] at hD; cases hD
          have b3 : B3 Dd = none := s3.b3 Dd hD3 b2
          have k3 : H' Dd = some (.lst acc) := s3.h1 _ _ nta h2
          unfold compL at ec2
          split at ec2
          · cases ec2
          · rename_i es2 esp
            have s13 := s2.trans s1.bs s3
            refine ⟨g, B3, _, es2, s13.bs.sub, h3, esp, fun vs hv => ⟨wipe_sets hs, ?_⟩⟩
            have r3 : Rep X.K g B3 H' (setsV (wipe σ (own.map (·.2))) is vs) (setsE (hide (own.map (·.2)) env) is es2) t2 :=
              Rep.sets _ _ _ _ _ (((r.step s1).step s13).wipe _) hv (hl _ _ esp)
            split at ec2
            · cases ec2
            · rename_i t4 et
              refine ⟨g, B3, _, t2, false, t4, r3, et, fun B4 H4 s4 => ?_⟩
              show (if false = true then _ else _)
              refine iteF ?_
              exact ⟨B4, t4, acc, accd, zs, s13.trans s1.bs s4, s4.b3 _ (by rw [k3]; exact fun z => nomatch z) b3, s4.h1 _ _ nta k3, (hd.mono s3.b1).mono s4.b1, ec2, rfl⟩
            · rename_i t4 et
              refine ⟨g, B3, _, t2, true, t4, r3, et, fun B4 H4 s4 => ?_⟩
              show (if true = true then _ else _)
              refine iteT ?_
              have b4 : B4 Dd = none := s4.b3 _ (by rw [k3]; exact fun z => nomatch z) b3
              have k4 : H4 Dd = some (.lst acc) := s4.h1 _ _ nta k3
              split at ec2
              · cases ec2
              · rename_i y5 t5 ey
                split at ec2
                · cases ec2
                · rename_i ws t6 ec3
                  cases ec2
                  refine ⟨g, B4, _, t4, y5, t5, r3.step s4, ey, fun yv B5 H5 s5 h5 => ?_⟩
                  have b5 : B5 Dd = none := s5.b3 _ (by rw [k4]; exact fun z => nomatch z) b4
                  have k5 : H5 Dd = some (.lst acc) := s5.h1 _ _ nta k4
                  have hac := hd.len
                  have hlen : accd.length + (ws.length + 1) ≤ LIM := by
                    have := hlim
                    rw [List.length_append, List.length_cons] at this
                    exact this
                  refine ⟨acc, k5, lim_lt (by omega), ?_⟩
                  refine ⟨B5, t5, acc ++ [yv], accd ++ [y5], ws, Step.mut s1.bs ((s13.trans s1.bs s4).trans s1.bs s5) hD b5, b5, upd_same, (((hd.mono s3.b1).mono s4.b1).mono s5.b1).app (.cons h5 .nil), ec3, by simp⟩
        · refine .inl ⟨wks.stop i B2 H2 t2 s2.b1 s2.bs (by omega), ?_⟩
          rw [List.drop_eq_nil_of_le (by omega)] at ec2
          cases ec2
          rw [List.append_nil] at q
          exact q Dd B2 H2 (s1.trans r.bs s2) hHD b2 (.lst h2 hd)
      · cases e
    · cases e
  · cases e
theorem ef_comp (hi : EI X tg iter src wk) (ok : BlkOk X.N X.env.scope scope own)
    (hg : ∀ (s : Shared) (H : Hp) (C : Addr) (cl : List (Str × Addr)) (fp : List Addr), EG (X.blk s H scope (compEnvC scope cl C X.env) fp) tg is sp wk) (ht : ∀ (s : Shared) (H : Hp) (C : Addr) (cl : List (Str × Addr)) (fp : List Addr), ETs (X.blk s H scope (compEnvC scope cl C X.env) fp) ifs ft)
    (he : ∀ (s : Shared) (H : Hp) (C : Addr) (cl : List (Str × Addr)) (fp : List Addr), EV (X.blk s H scope (compEnvC scope cl C X.env) fp) elt fe) (hc : X.calm = true) (hN : X.N.Nodup) (hs : ∀ i ∈ is, i ∈ own.map (·.2) := by decide) (hl : ∀ d ds, sp d = some ds → ds.length = is.length) (hf : ∀ x, foldedSetIterable iter X.env x = pure x := by intro _; rfl) :
    EF X (.ListComp elt [⟨tg, iter, ifs, 0⟩] scope pos) (cComp src (own.map (·.2)) is sp ft fe) :=
  ⟨pe_weak (pe_lc hc hN hi.pi ok (fun s H C cl fp => (hg s H C cl fp).pg) (fun s H C cl fp => (ht s H C cl fp).pts) (fun s H C cl fp => (he s H C cl fp).pe) hf) fun σ H Q h => tlc hs hl h⟩
variable {R : RT} {o : List Nat}
/-- name = [..] on one line, the name a local -/
theorem es_setLc {i : Nat} {y : Str} {py spos : Pos} (hi : EI X tg iter src wk) (ok : BlkOk X.N X.env.scope scope own)
    (hg : ∀ (s : Shared) (H : Hp) (C : Addr) (cl : List (Str × Addr)) (fp : List Addr), EG (X.blk s H scope (compEnvC scope cl C X.env) fp) tg is sp wk) (ht : ∀ (s : Shared) (H : Hp) (C : Addr) (cl : List (Str × Addr)) (fp : List Addr), ETs (X.blk s H scope (compEnvC scope cl C X.env) fp) ifs ft)
    (he : ∀ (s : Shared) (H : Hp) (C : Addr) (cl : List (Str × Addr)) (fp : List Addr), EV (X.blk s H scope (compEnvC scope cl C X.env) fp) elt fe) (hc : X.calm = true) (hN : X.N.Nodup) (hl : ∀ d ds, sp d = some ds → ds.length = is.length)
    (hsw : swapsWith (.ListComp elt [⟨tg, iter, ifs, 0⟩] scope pos) (some (.Name y py)) spos.line X.env = pure true) (hs : ∀ i ∈ is, i ∈ own.map (·.2) := by decide) (hy : X.N[i]? = some y := by rfl) (hyl : X.env.scope.names.lookup y = some .local := by rfl) (hf : ∀ x, foldedSetIterable iter X.env x = pure x := by intro _; rfl) :
    ES X R o (.Assign [.Name y py] (.ListComp elt [⟨tg, iter, ifs, 0⟩] scope pos) spos) (sSet i (useV o (cComp src (own.map (·.2)) is sp ft fe))) (o.filter (· ≠ i)) :=
  ⟨ps_weak (ps_setLc hc hN hy hyl hsw hi.pi ok (fun s H C cl fp => (hg s H C cl fp).pg) (fun s H C cl fp => (ht s H C cl fp).pts) (fun s H C cl fp => (he s H C cl fp).pe) hf) fun E σ H h => by
  refine tlc (ft := ft) (fe := fe) (wk := wk) hs hl (tF_ofD (tD_of (o := o) ?_))
  obtain ⟨g, fg, B, env, t, r, rp, e, q⟩ := h
  unfold sSet at e
  split at e
  · rename_i d t' ef
    cases e
    exact ⟨g, fg, B, env, t, d, t', rp, ef, fun v B' H' r1 _ h1 => q _ B' H' (r1.set h1)⟩
  · cases e⟩
theorem es_setLcF {i : Nat} {y : Str} {py spos : Pos} (hi : EI X tg iter src wk) (ok : BlkOk X.N X.env.scope scope own)
    (hg : ∀ (s : Shared) (H : Hp) (C : Addr) (cl : List (Str × Addr)) (fp : List Addr), EG (X.blk s H scope (compEnvC scope cl C X.env) fp) tg is sp wk) (ht : ∀ (s : Shared) (H : Hp) (C : Addr) (cl : List (Str × Addr)) (fp : List Addr), ETs (X.blk s H scope (compEnvC scope cl C X.env) fp) ifs ft)
    (he : ∀ (s : Shared) (H : Hp) (C : Addr) (cl : List (Str × Addr)) (fp : List Addr), EV (X.blk s H scope (compEnvC scope cl C X.env) fp) elt fe) (hc : X.calm = true) (hN : X.N.Nodup) (hl : ∀ d ds, sp d = some ds → ds.length = is.length)
    (hsw : swapsWith (.ListComp elt [⟨tg, iter, ifs, 0⟩] scope pos) (some (.Name y py)) spos.line X.env = pure true) (hs : ∀ i ∈ is, i ∈ own.map (·.2) := by decide) (hy : X.N[i]? = some y := by rfl) (hyl : X.env.scope.names.lookup y = some .local := by rfl) (hf : ∀ x, foldedSetIterable iter X.env x = pure x := by intro _; rfl) :
    ES X R o (.Assign [.Name y py] (.ListComp elt [⟨tg, iter, ifs, 0⟩] scope pos) spos) (sSet i (useV o (cComp src (own.map (·.2)) is sp ft fe))) (i :: o.filter (· ≠ i)) :=
  ⟨ps_weak (ps_setLc hc hN hy hyl hsw hi.pi ok (fun s H C cl fp => (hg s H C cl fp).pg) (fun s H C cl fp => (ht s H C cl fp).pts) (fun s H C cl fp => (he s H C cl fp).pe) hf) fun E σ H h => by
  refine tlc (ft := ft) (fe := fe) (wk := wk) hs hl (tF_of (o := o) ?_)
  obtain ⟨g, fg, B, env, t, r, rp, e, q⟩ := h
  unfold sSet at e
  split at e
  · rename_i d t' ef
    cases e
    exact ⟨g, fg, B, env, t, d, t', rp, ef, fun p B' H' r1 h1 h2 h3 h4 h5 => q _ B' H' (r1.setOwn h1 h2 h3 h4 h5)⟩
  · cases e⟩

/-! ### fresh lists -/
theorem Base.lstF {K : PySem.W.Frag} {g : G} {B H : Hp} {t : T} {p : Addr} {vs : List V} {ds : List D} {Q : VK} (bs : Base g B H t) (h : HdL K g B vs ds) (np : H p = none)
    (q : ∀ p B' H', Step g B H t B' H' → H p = none → B' p = none → OwnAt K g B' H' p (.list ds) → Q (.ref p) H') : Q (.ref p) (upd H p (.lst vs)) := by
  refine q p B _ (.hid bs np) np ?_ (.lst upd_same h)
  cases z : B p with
  | none => rfl
  | some x => rw [bs.sub p x z] at np; cases np
theorem Step.freshBack {g : G} {B H : Hp} {t t' : T} {B' H' : Hp} (s : Step g B H t' B' H') (b : Base g B H t) {p : Addr} (h : H' p = none) : H p = none := by
  cases z : H p with
  | none => rfl
  | some x => exact absurd h (s.live b (by rw [z]; exact fun z => nomatch z))
theorem ef_lst {es : List Expr} {f : SA} (h : EA X es f) : EF X (.List es pos) (cLst f) := ⟨pe_weak (pe_lst h.pa) fun σ H Q h => by
  obtain ⟨g, B, env, t, d, t', r, e, q⟩ := h
  unfold cLst at e
  split at e
  · rename_i xs t1 e1
    split at e
    · rename_i hl
      cases e
      refine ⟨g, B, env, t, _, _, r, e1, fun vs B1 H1 s1 h1 => ⟨by rw [h1.len]; exact lim_le hl, fun p np => ?_⟩⟩
      exact s1.bs.lstF h1 np fun p B2 H2 s2 k1 k2 k3 => q p B2 H2 (s1.trans r.bs s2) (s1.freshBack r.bs k1) k2 k3
    · cases e
  · cases e⟩
/-- a def that hands back a fresh value -/
theorem ef_call {k n : Nat} {x : Str} {φ : SF} {a : Expr} {es : List Expr} {f : SA} {p : Pos} (F : FnAtF X.prog X.w X.K X.mg X.base k x n φ) (hr : Room k X.A) (ha : EA X (a :: es) f)
    (hn : ∀ (e : Env) (t : T) (xs : List D) (t' : T), f e t = some (xs, t') → xs.length = n) (hg : Gl X x := by rfl) (hdb : (x == ("__debug__" : Str)) = false := by decide)
    (he : starEach (a :: es) X.env = (false, eval a X.env) :: starEach es X.env := by rfl) (hpl : (backTo pos (starEach es X.env)).any (·.1) = false := by rfl) :
    EF X (.Call (.Name x p) (a :: es) [] pos) (cCall φ f) := by
  obtain ⟨fa', fd, ps, h1, h2, h3, h4⟩ := F.ex
  refine ⟨pe_weak (pe_call h1 hr hg h2 h3 h4 .nil (E := E0) pass0 ha.pa hdb he hpl) fun σ H Q h => ?_⟩
  obtain ⟨g, B, env, t, d, t', r, e, q⟩ := h
  unfold cCall at e
  split at e
  · rename_i xs t1 e1
    refine ⟨g, B, env, t, _, _, r, e1, fun vs B1 H1 s1 h1 => ?_⟩
    refine ⟨g, B1, xs, t1, d, t', ?_, s1.bs, by rw [List.append_nil]; exact h1, e, fun v B2 H2 s2 k1 k2 k3 => q v B2 H2 (s1.trans r.bs s2) (s1.freshBack r.bs k1) k2 k3⟩
    rw [List.append_nil, h1.len]
    exact hn _ _ _ _ e1
  · cases e
end
end PP

namespace PP
open PySem PySem.Spec PyProof.Rows L2

/-! ### built-ins called by name -/
abbrev FD := List D → Option D
def CallD (K : PySem.W.Frag) (r : List V → Hp → VK → Prop) (φ : FD) : Prop := ∀ (g : G) (B H : Hp) (t : T) (vs : List V) (ds : List D) (d : D) (Q : VK), Base g B H t → HdL K g B vs ds → φ ds = some d →
  (∀ v B' H', Step g B H t B' H' → Hd K g B' v d → Q v H') → r vs H Q
/-- .. that make a fresh value -/
def CallF (K : PySem.W.Frag) (r : List V → Hp → VK → Prop) (φ : FD) : Prop := ∀ (g : G) (B H : Hp) (t : T) (vs : List V) (ds : List D) (d : D) (Q : VK), Base g B H t → HdL K g B vs ds → φ ds = some d →
  (∀ p B' H', Step g B H t B' H' → H p = none → B' p = none → OwnAt K g B' H' p d → Q (.ref p) H') → r vs H Q
def cBI (φ : FD) (f : SA) : SE := fun e t => match f e t with
  | some (ds, t') => match φ ds with
    | some d => some (d, t')
    | none => none
  | none => none
section
variable {K : PySem.W.Frag} {φ : FD} {f : SA} {r : List V → Hp → VK → Prop}
theorem tCB_of (hr : CallD K r φ) {σ : Sg} {H : Hp} {Q : VK} (h : tD K (cBI φ f) σ H Q) : tCB r (tDA K f) σ H Q := by
  obtain ⟨g, B, env, t, d, t', rp, e, q⟩ := h
  unfold cBI at e
  split at e
  · rename_i ds t1 ef
    split at e
    · rename_i d1 ed
      cases e
      exact ⟨g, B, env, t, ds, _, rp, ef, fun vs B1 H1 s1 h1 => hr g B1 H1 _ vs ds _ Q s1.bs h1 ed fun v B2 H2 s2 h2 => q v B2 H2 (s1.trans rp.bs s2) h2⟩
    · cases e
  · cases e
theorem tCB_ofF (hr : CallF K r φ) {σ : Sg} {H : Hp} {Q : VK} (h : tF K (cBI φ f) σ H Q) : tCB r (tDA K f) σ H Q := by
  obtain ⟨g, B, env, t, d, t', rp, e, q⟩ := h
  unfold cBI at e
  split at e
  · rename_i ds t1 ef
    split at e
    · rename_i d1 ed
      cases e
      exact ⟨g, B, env, t, ds, _, rp, ef, fun vs B1 H1 s1 h1 => hr g B1 H1 _ vs ds _ Q s1.bs h1 ed fun p B2 H2 s2 k1 k2 k3 => q p B2 H2 (s1.trans rp.bs s2) (s1.freshBack rp.bs k1) k2 k3⟩
    · cases e
  · cases e
end
section
variable {X : Cx} {x : Str} {p pos : Pos} {e : Expr} {es : List Expr} {id T : String} {r : List V → Hp → VK → Prop} {φ : FD} {f : SA}
theorem ev_bi (hc : CallR X (.builtin id) r) (hd : CallD X.K r φ) (ha : EA X (e :: es) f) (hm : X.mg x = none) (hv : bootBuiltins x = some (.builtin id)) (hg : Gl X x := by rfl) (hn : x ≠ "__name__" := by decide) (hdb : (x == ("__debug__" : Str)) = false := by decide)
    (he : starEach (e :: es) X.env = (false, eval e X.env) :: starEach es X.env := by rfl) (hpl : (backTo pos (starEach es X.env)).any (·.1) = false := by rfl) : EV X (.Call (.Name x p) (e :: es) [] pos) (cBI φ f) :=
  ⟨pe_weak (pe_callB hc hg hm hv ha.pa hn hdb he hpl) fun _ _ _ h => tCB_of hd h⟩
theorem ev_bt (hc : CallR X (.type T) r) (hd : CallD X.K r φ) (ha : EA X (e :: es) f) (hm : X.mg x = none) (hv : bootBuiltins x = some (.type T)) (hg : Gl X x := by rfl) (hn : x ≠ "__name__" := by decide) (hdb : (x == ("__debug__" : Str)) = false := by decide)
    (he : starEach (e :: es) X.env = (false, eval e X.env) :: starEach es X.env := by rfl) (hpl : (backTo pos (starEach es X.env)).any (·.1) = false := by rfl) : EV X (.Call (.Name x p) (e :: es) [] pos) (cBI φ f) :=
  ⟨pe_weak (pe_callTy hc hg hm hv ha.pa hn hdb he hpl) fun _ _ _ h => tCB_of hd h⟩
theorem ef_bt (hc : CallR X (.type T) r) (hd : CallF X.K r φ) (ha : EA X (e :: es) f) (hm : X.mg x = none) (hv : bootBuiltins x = some (.type T)) (hg : Gl X x := by rfl) (hn : x ≠ "__name__" := by decide) (hdb : (x == ("__debug__" : Str)) = false := by decide)
    (he : starEach (e :: es) X.env = (false, eval e X.env) :: starEach es X.env := by rfl) (hpl : (backTo pos (starEach es X.env)).any (·.1) = false := by rfl) : EF X (.Call (.Name x p) (e :: es) [] pos) (cBI φ f) :=
  ⟨pe_weak (pe_callTy hc hg hm hv ha.pa hn hdb he hpl) fun _ _ _ h => tCB_ofF hd h⟩
theorem ef_bi (hc : CallR X (.builtin id) r) (hd : CallF X.K r φ) (ha : EA X (e :: es) f) (hm : X.mg x = none) (hv : bootBuiltins x = some (.builtin id)) (hg : Gl X x := by rfl) (hn : x ≠ "__name__" := by decide) (hdb : (x == ("__debug__" : Str)) = false := by decide)
    (he : starEach (e :: es) X.env = (false, eval e X.env) :: starEach es X.env := by rfl) (hpl : (backTo pos (starEach es X.env)).any (·.1) = false := by rfl) : EF X (.Call (.Name x p) (e :: es) [] pos) (cBI φ f) :=
  ⟨pe_weak (pe_callB hc hg hm hv ha.pa hn hdb he hpl) fun _ _ _ h => tCB_ofF hd h⟩
end
/-! len, int, bool, list, tuple -/
def dLen : FD
  | [.list xs] => some (.int xs.length)
  | [.tuple xs] => some (.int xs.length)
  | [.str z] => if z.length ≤ LIM then some (.int z.length) else none
  | _ => none
def rLenA (K : PySem.W.Frag) : List V → Hp → VK → Prop := fun xs H Q => (∃ p ys, xs = [.ref p] ∧ (SqL K H p ys ∨ SqT K H p ys) ∧ Q (.int ys.length) H) ∨ (∃ z, xs = [.str z] ∧ z.length ≤ sizeLine ∧ Q (.int z.length) H)
section
variable {K : PySem.W.Frag} {X : Cx}
theorem call_lenA : CallR X (.builtin "len") (rLenA X.K) := call_len_seq.or call_len_str
theorem HdL.one {g : G} {B : Hp} {vs : List V} {d : D} (h : HdL K g B vs [d]) : ∃ v, vs = [v] ∧ Hd K g B v d := by
  cases h with
  | cons h1 h2 => cases h2; exact ⟨_, rfl, h1⟩
theorem HdL.two {g : G} {B : Hp} {vs : List V} {d e : D} (h : HdL K g B vs [d, e]) : ∃ v w, vs = [v, w] ∧ Hd K g B v d ∧ Hd K g B w e := by
  cases h with
  | cons h1 h2 =>
    obtain ⟨w, rfl, h3⟩ := h2.one
    exact ⟨_, w, rfl, h1, h3⟩
theorem d_len : CallD K (rLenA K) dLen := by
  intro g B H t vs ds d Q bs h e q
  unfold dLen at e
  split at e
  · cases e
    obtain ⟨v, rfl, hv⟩ := h.one
    cases hv with
    | lst h1 h2 => exact .inl ⟨_, _, rfl, .inl (SqL.of (bs.sub _ _ h1)), by rw [h2.len]; exact q _ _ _ (.refl bs) (.int _)⟩
  · cases e
    obtain ⟨v, rfl, hv⟩ := h.one
    cases hv with
    | tup h1 h2 => exact .inl ⟨_, _, rfl, .inr (bs.sub.sqt h1.sq), by rw [h2.len]; exact q _ _ _ (.refl bs) (.int _)⟩
  · split at e
    · rename_i hl
      cases e
      obtain ⟨v, rfl, hv⟩ := h.one
      cases hv
      exact .inr ⟨_, rfl, lim_le hl, q _ _ _ (.refl bs) (.int _)⟩
    · cases e
  · cases e
def dInt : FD
  | [.int i] => some (.int i)
  | [.bool b] => some (.int (if b then 1 else 0))
  | _ => none
def rInt1 : List V → Hp → VK → Prop := fun xs H Q => (∃ i, xs = [.int i] ∧ Q (.int i) H) ∨ ∃ k, xs = [.bl k] ∧ Q (.int (if k then 1 else 0)) H
theorem call_intA : CallR X (.type "int") rInt1 := call_int1
theorem d_int : CallD K rInt1 dInt := by
  intro g B H t vs ds d Q bs h e q
  unfold dInt at e
  split at e
  · cases e
    obtain ⟨v, rfl, hv⟩ := h.one
    cases hv
    exact .inl ⟨_, rfl, q _ _ _ (.refl bs) (.int _)⟩
  · cases e
    obtain ⟨v, rfl, hv⟩ := h.one
    cases hv
    exact .inr ⟨_, rfl, q _ _ _ (.refl bs) (.int _)⟩
  · cases e
def dList : FD
  | [.list xs] => some (.list xs)
  | [.tuple xs] => some (.list xs)
  | _ => none
def rListA (K : PySem.W.Frag) : List V → Hp → VK → Prop := fun xs H Q => ∃ p ys, xs = [.ref p] ∧ (SqL K H p ys ∨ SqT K H p ys) ∧ ∀ l, H l = none → Q (.ref l) (upd H l (.lst ys))
theorem call_listA : CallR X (.type "list") (rListA X.K) := call_list_of
theorem d_list : CallF K (rListA K) dList := by
  intro g B H t vs ds d Q bs h e q
  unfold dList at e
  split at e
  · cases e
    obtain ⟨v, rfl, hv⟩ := h.one
    cases hv with
    | lst h1 h2 => exact ⟨_, _, rfl, .inl (SqL.of (bs.sub _ _ h1)), fun l hl => bs.lstF h2 hl q⟩
  · cases e
    obtain ⟨v, rfl, hv⟩ := h.one
    cases hv with
    | tup h1 h2 => exact ⟨_, _, rfl, .inr (bs.sub.sqt h1.sq), fun l hl => bs.lstF h2 hl q⟩
  · cases e
def dTup : FD
  | [.list xs] => some (.tuple xs)
  | [.tuple xs] => some (.tuple xs)
  | _ => none
theorem d_tup : CallD K (rTupOf K) dTup := by
  intro g B H t vs ds d Q bs h e q
  unfold dTup at e
  split at e
  · cases e
    obtain ⟨v, rfl, hv⟩ := h.one
    cases hv with
    | lst h1 h2 => exact ⟨_, _, rfl, .inl ⟨SqL.of (bs.sub _ _ h1), fun p o hp od => bs.tup h2 hp od q⟩⟩
  · cases e
    obtain ⟨v, rfl, hv⟩ := h.one
    cases hv with
    | tup h1 h2 => exact ⟨_, _, rfl, .inr ⟨bs.sub.sqt h1.sq, q _ _ _ (.refl bs) (.tup h1 h2)⟩⟩
  · cases e
def boolsD : List D → Option (List Bool)
  | [] => some []
  | .bool b :: r => (boolsD r).map (b :: ·)
  | _ => none
theorem HdL.bools {g : G} {B : Hp} : ∀ {ds : List D} {bs : List Bool} {vs : List V}, HdL K g B vs ds → boolsD ds = some bs → vs = bs.map V.bl
  | [], bs, vs, h, e => by cases h; cases e; rfl
  | d :: ds, bs, vs, h, e => by
    cases h with
    | cons h1 h2 =>
      cases d <;> first | (cases e; done) | skip
      rename_i b
      cases h1
      unfold boolsD at e
      cases q : boolsD ds with
      | none => rw [q] at e; cases e
      | some cs => rw [q] at e; cases e; rw [HdL.bools h2 q]; rfl
def dAll : FD
  | [.list xs] => (boolsD xs).map fun bs => .bool (bs.all id)
  | _ => none
def dAny : FD
  | [.list xs] => (boolsD xs).map fun bs => .bool (bs.any id)
  | _ => none
theorem d_all : CallD K (rAll K) dAll := by
  intro g B H t vs ds d Q bs h e q
  unfold dAll at e
  split at e
  · rename_i xs
    cases eb : boolsD xs with
    | none => rw [eb] at e; cases e
    | some b =>
      rw [eb] at e; cases e
      obtain ⟨v, rfl, hv⟩ := h.one
      cases hv with
      | lst h1 h2 =>
        have := h2.bools eb
        subst this
        exact ⟨_, b, rfl, SqL.of (bs.sub _ _ h1), q _ _ _ (.refl bs) (.bl _)⟩
  · cases e
theorem d_any : CallD K (rAny K) dAny := by
  intro g B H t vs ds d Q bs h e q
  unfold dAny at e
  split at e
  · rename_i xs
    cases eb : boolsD xs with
    | none => rw [eb] at e; cases e
    | some b =>
      rw [eb] at e; cases e
      obtain ⟨v, rfl, hv⟩ := h.one
      cases hv with
      | lst h1 h2 =>
        have := h2.bools eb
        subst this
        exact ⟨_, b, rfl, SqL.of (bs.sub _ _ h1), q _ _ _ (.refl bs) (.bl _)⟩
  · cases e
def dMax2 : FD
  | [.int i, .int j] => some (.int (if j > i then j else i))
  | _ => none
def dMin2 : FD
  | [.int i, .int j] => some (.int (if j < i then j else i))
  | _ => none
def rMax2' : List V → Hp → VK → Prop := fun xs H Q => ∃ i j, xs = [.int i, .int j] ∧ Q (.int (if j > i then j else i)) H
def rMin2' : List V → Hp → VK → Prop := fun xs H Q => ∃ i j, xs = [.int i, .int j] ∧ Q (.int (if j < i then j else i)) H
theorem call_maxA (hc : X.calm = true) : CallR X (.builtin "max") rMax2' := call_max2 hc
theorem call_minA (hc : X.calm = true) : CallR X (.builtin "min") rMin2' := call_min2 hc
theorem d_max2 : CallD K rMax2' dMax2 := by
  intro g B H t vs ds d Q bs h e q
  unfold dMax2 at e
  split at e
  · cases e
    obtain ⟨v, w, rfl, h1, h2⟩ := h.two
    cases h1; cases h2
    exact ⟨_, _, rfl, q _ _ _ (.refl bs) (.int _)⟩
  · cases e
theorem d_min2 : CallD K rMin2' dMin2 := by
  intro g B H t vs ds d Q bs h e q
  unfold dMin2 at e
  split at e
  · cases e
    obtain ⟨v, w, rfl, h1, h2⟩ := h.two
    cases h1; cases h2
    exact ⟨_, _, rfl, q _ _ _ (.refl bs) (.int _)⟩
  · cases e
variable {a : Expr} {fa : SE} {f : SA} {es : List Expr} {p pos : Pos}
theorem ev_len (ha : EV X a fa) (hm : X.mg "len" = none) (hg : Gl X "len" := by rfl) (hs : starEach [a] X.env = (false, eval a X.env) :: starEach [] X.env := by rfl) : EV X (.Call (.Name "len" p) [a] [] pos) (cBI dLen (aCons fa aNil)) := ev_bi call_lenA d_len (ea_cons ha ea_nil hs) hm PySem.boot_len hg (by decide) (by decide) hs
theorem ev_int' (ha : EV X a fa) (hm : X.mg "int" = none) (hg : Gl X "int" := by rfl) (hs : starEach [a] X.env = (false, eval a X.env) :: starEach [] X.env := by rfl) : EV X (.Call (.Name "int" p) [a] [] pos) (cBI dInt (aCons fa aNil)) := ev_bt call_intA d_int (ea_cons ha ea_nil hs) hm (by decide +kernel) hg (by decide) (by decide) hs
theorem ef_list (ha : EV X a fa) (hm : X.mg "list" = none) (hg : Gl X "list" := by rfl) (hs : starEach [a] X.env = (false, eval a X.env) :: starEach [] X.env := by rfl) : EF X (.Call (.Name "list" p) [a] [] pos) (cBI dList (aCons fa aNil)) := ef_bt call_listA d_list (ea_cons ha ea_nil hs) hm (by decide +kernel) hg (by decide) (by decide) hs
theorem ev_tuple (ha : EV X a fa) (hm : X.mg "tuple" = none) (hg : Gl X "tuple" := by rfl) (hs : starEach [a] X.env = (false, eval a X.env) :: starEach [] X.env := by rfl) : EV X (.Call (.Name "tuple" p) [a] [] pos) (cBI dTup (aCons fa aNil)) := ev_bt call_tuple_ofZ d_tup (ea_cons ha ea_nil hs) hm (by decide +kernel) hg (by decide) (by decide) hs
theorem ev_all (ha : EV X a fa) (hc : X.calm = true) (hm : X.mg "all" = none) (hg : Gl X "all" := by rfl) (hs : starEach [a] X.env = (false, eval a X.env) :: starEach [] X.env := by rfl) : EV X (.Call (.Name "all" p) [a] [] pos) (cBI dAll (aCons fa aNil)) := ev_bi (cr_all hc) d_all (ea_cons ha ea_nil hs) hm (by decide +kernel) hg (by decide) (by decide) hs
theorem ev_any (ha : EV X a fa) (hc : X.calm = true) (hm : X.mg "any" = none) (hg : Gl X "any" := by rfl) (hs : starEach [a] X.env = (false, eval a X.env) :: starEach [] X.env := by rfl) : EV X (.Call (.Name "any" p) [a] [] pos) (cBI dAny (aCons fa aNil)) := ev_bi (cr_any hc) d_any (ea_cons ha ea_nil hs) hm (by decide +kernel) hg (by decide) (by decide) hs
theorem ev_max2 {b : Expr} {fb : SE} (ha : EV X a fa) (hb : EV X b fb) (hc : X.calm = true) (hm : X.mg "max" = none) (hg : Gl X "max" := by rfl) (hs : starEach [a, b] X.env = (false, eval a X.env) :: starEach [b] X.env := by rfl) (hs2 : starEach [b] X.env = (false, eval b X.env) :: starEach [] X.env := by rfl) (hpl : (backTo pos (starEach [b] X.env)).any (·.1) = false := by rfl) :
    EV X (.Call (.Name "max" p) [a, b] [] pos) (cBI dMax2 (aCons fa (aCons fb aNil))) := ev_bi (call_maxA hc) d_max2 (ea_cons ha (ea_cons hb ea_nil hs2) hs) hm (by decide +kernel) hg (by decide) (by decide) hs hpl
theorem ev_min2 {b : Expr} {fb : SE} (ha : EV X a fa) (hb : EV X b fb) (hc : X.calm = true) (hm : X.mg "min" = none) (hg : Gl X "min" := by rfl) (hs : starEach [a, b] X.env = (false, eval a X.env) :: starEach [b] X.env := by rfl) (hs2 : starEach [b] X.env = (false, eval b X.env) :: starEach [] X.env := by rfl) (hpl : (backTo pos (starEach [b] X.env)).any (·.1) = false := by rfl) :
    EV X (.Call (.Name "min" p) [a, b] [] pos) (cBI dMin2 (aCons fa (aCons fb aNil))) := ev_bi (call_minA hc) d_min2 (ea_cons ha (ea_cons hb ea_nil hs2) hs) hm (by decide +kernel) hg (by decide) (by decide) hs hpl

/-! ### list(range(..)), tuple(range(..)) -/
theorem rgV_hd {g : G} {B : Hp} (a b : Int) : HdL K g B (rgV a b) (rng a (b - a).toNat) := by
  have key : ∀ l : List Nat, HdL K g B (l.map fun i => V.int (a + (i : Nat))) (l.map fun (i : Nat) => PyData.int (a + i)) := by
    intro l
    induction l with
    | nil => exact .nil
    | cons n l ih => exact .cons (.int _) ih
  exact key _
def cRg1 (f : SE) : Env → T → Option (Int × Int × T) := fun e t => match f e t with
  | some (.int n, t') => some (0, n, t')
  | _ => none
def cRg2 (f h : SE) : Env → T → Option (Int × Int × T) := fun e t => match f e t with
  | some (.int i, t1) => match h e t1 with
    | some (.int j, t') => some (i, j, t')
    | _ => none
  | _ => none
def okRg (a b : Int) : Bool := decide (0 ≤ a) && leN a 100000 && leN b 100000
theorem okRg_ok {a b : Int} (h : okRg a b = true) : RgOk a b := by
  unfold okRg at h
  simp only [Bool.and_eq_true, decide_eq_true_eq] at h
  have h2 := leN_ok h.1.2
  have h3 := leN_ok h.2
  exact ⟨by omega, by omega, by omega, by omega, by omega⟩
theorem okRg_of' {a b : Int} (h0 : 0 ≤ a) (h1 : a ≤ 100000) (h2 : -100000 ≤ b) (h3 : b ≤ 100000) : okRg a b = true := by
  unfold okRg
  simp only [Bool.and_eq_true, decide_eq_true_eq]
  exact ⟨⟨h0, leN_of (by omega)⟩, leN_of (by omega)⟩
theorem okRg_of {a b : Int} (h0 : 0 ≤ a) (h1 : a ≤ 100000) (h2 : 0 ≤ b) (h3 : b ≤ 100000) : okRg a b = true := okRg_of' h0 h1 (by omega) h3
structure ERg (X : Cx) (e : Expr) (f : Env → T → Option (Int × Int × T)) : Prop where
  prg : ∃ t, PRg X e t ∧ ∀ (σ : Sg) H (Q : Int → Int → Hp → Prop), (∃ g B env t a b t', Rep X.K g B H σ env t ∧ f env t = some (a, b, t') ∧ ∀ B' H', Step g B H t' B' H' → Q a b H') → t σ H Q
theorem erg1 (ha : EV X a fa) (hm : X.mg "range" = none) (hg : Gl X "range" := by rfl) (hs : starEach [a] X.env = (false, eval a X.env) :: starEach [] X.env := by rfl) : ERg X (.Call (.Name "range" p) [a] [] pos) (cRg1 fa) := ⟨_, prg_1 hg hm ha.pe hs, fun σ H Q h => by
  obtain ⟨g, B, env, t, i, j, t', r, e, q⟩ := h
  unfold cRg1 at e
  split at e
  · rename_i n t1 e1
    cases e
    exact ⟨g, B, env, t, _, _, r, e1, fun v B1 H1 s1 h1 => by cases h1; exact ⟨_, rfl, q B1 H1 s1⟩⟩
  · cases e⟩
theorem erg2 {b : Expr} {fb : SE} (ha : EV X a fa) (hb : EV X b fb) (hm : X.mg "range" = none) (hg : Gl X "range" := by rfl) (hs : starEach [a, b] X.env = (false, eval a X.env) :: starEach [b] X.env := by rfl) (hs2 : starEach [b] X.env = (false, eval b X.env) :: starEach [] X.env := by rfl) (hpl : (backTo pos (starEach [b] X.env)).any (·.1) = false := by rfl) : ERg X (.Call (.Name "range" p) [a, b] [] pos) (cRg2 fa fb) := ⟨_, prg_2 hg hm ha.pe hb.pe hs hs2 hpl, fun σ H Q h => by
  obtain ⟨g, B, env, t, i, j, t', r, e, q⟩ := h
  unfold cRg2 at e
  split at e
  · rename_i n t1 e1
    split at e
    · rename_i m t2 e2
      cases e
      exact ⟨g, B, env, t, _, _, r, e1, fun v B1 H1 s1 h1 => ⟨g, B1, env, t1, _, _, r.step s1, e2, fun w B2 H2 s2 h2 => by cases h1; cases h2; exact ⟨_, _, rfl, rfl, q B2 H2 (s1.trans r.bs s2)⟩⟩⟩
    · cases e
  · cases e⟩
def cLstRg (f : Env → T → Option (Int × Int × T)) : SE := fun e t => match f e t with
  | some (a, b, t') => if okRg a b = true then some (.list (rng a (b - a).toNat), t') else none
  | none => none
theorem ef_listRg {fr : Env → T → Option (Int × Int × T)} (h : ERg X a fr) (hc : X.calm = true) (hm : X.mg "list" = none) (hg : Gl X "list" := by rfl) (hs : starEach [a] X.env = (false, eval a X.env) :: starEach [] X.env := by rfl) : EF X (.Call (.Name "list" p) [a] [] pos) (cLstRg fr) := by
  obtain ⟨t, ht, hw⟩ := h.prg
  refine ⟨pe_weak (pe_listRg hc hg hm ht hs) fun σ H Q h => ?_⟩
  obtain ⟨g, B, env, t, d, t', r, e, q⟩ := h
  unfold cLstRg at e
  split at e
  · rename_i i j t1 e1
    split at e
    · rename_i hok
      cases e
      exact hw σ H _ ⟨g, B, env, t, i, j, _, r, e1, fun B1 H1 s1 => ⟨okRg_ok hok, fun l hl => s1.bs.lstF (rgV_hd i j) hl fun p B2 H2 s2 k1 k2 k3 => q p B2 H2 (s1.trans r.bs s2) (s1.freshBack r.bs k1) k2 k3⟩⟩
    · cases e
  · cases e

/-! ### isinstance -/
inductive Ty where
  | int | bool | str | list | tuple
def Ty.nm : Ty → String
  | .int => "int"
  | .bool => "bool"
  | .str => "str"
  | .list => "list"
  | .tuple => "tuple"
def isTy : Ty → D → Bool
  | .int, .int _ => true
  | .int, .bool _ => true
  | .bool, .bool _ => true
  | .str, .str _ => true
  | .list, .list _ => true
  | .tuple, .tuple _ => true
  | _, _ => false
def noDict : D → Bool
  | .dict _ => false
  | _ => true
def tyOfD : D → String
  | .none => "NoneType"
  | .bool _ => "bool"
  | .int _ => "int"
  | .str _ => "str"
  | .list _ => "list"
  | .tuple _ => "tuple"
  | .dict _ => "dict"
theorem Hd.ty {g : G} {B H : Hp} {t : T} {v : V} {d : D} (bs : Base g B H t) (h : Hd K g B v d) (n : noDict d = true) : TyX K H v (.type (tyOfD d)) := by
  cases h with
  | non => exact .base .non
  | bl b => exact .base (.bl b)
  | int i => exact .base (.int i)
  | str x => exact .base (.str x)
  | lst h1 h2 => exact .base (.lst (bs.sub _ _ h1))
  | tup h1 h2 =>
    rcases h1 with ⟨o, h1, _⟩ | ⟨o, its, n, h1, h2, _⟩
    · exact .fTuple (bs.sub _ _ h1)
    · exact .kTuple h1 h2
  | dct _ _ => cases n
  | tape => cases n
  | dx _ _ _ _ _ => cases n
theorem kitD (d : D) (n : noDict d = true) (y : Ty) : kitB (tyOfD d) y.nm = some (isTy y d) := by
  cases d <;> first | (cases n; done) | (cases y <;> (simp only [tyOfD, Ty.nm, isTy]; decide +kernel))
def cIsi (tys : List Ty) (f : SE) : SE := fun e t => match f e t with
  | some (d, t') => if noDict d = true then some (.bool (tys.any fun y => isTy y d), t') else none
  | none => none
theorem ev_isi {a : Expr} {fa : SE} {x : Str} {p p2 pos : Pos} (y : Ty) (ha : EV X a fa) (hm : X.mg "isinstance" = none) (hm2 : X.mg x = none) (hv : bootBuiltins x = some (.type y.nm)) (hg : Gl X "isinstance" := by rfl) (hg2 : Gl X x := by rfl) (hn : x ≠ "__name__" := by decide) (hd : (x == ("__debug__" : Str)) = false := by decide)
    (hs : starEach [a, .Name x p2] X.env = (false, eval a X.env) :: starEach [.Name x p2] X.env := by rfl) (hs2 : starEach [.Name x p2] X.env = (false, eval (.Name x p2) X.env) :: starEach [] X.env := by rfl) (hpl : (backTo pos (starEach [.Name x p2] X.env)).any (·.1) = false := by rfl) :
    EV X (.Call (.Name "isinstance" p) [a, .Name x p2] [] pos) (cIsi [y] fa) :=
  ⟨pe_weak (pe_callB call_isi hg hm (by decide +kernel) (pa_cons ha.pe (pa_cons (pe_bltn (v := .ty y.nm) hg2 hm2 hv rfl hn hd) pa_nil hs2) hs) (by decide) (by decide) hs hpl) fun σ H Q h => by
  obtain ⟨g, B, env, t, d, t', r, e, q⟩ := h
  unfold cIsi at e
  split at e
  · rename_i d1 t1 e1
    split at e
    · rename_i hn
      cases e
      refine ⟨g, B, env, t, d1, _, r, e1, fun v B1 H1 s1 h1 => ?_⟩
      refine ⟨v, .ty y.nm, .type (tyOfD d1), .type y.nm, isTy y d1, rfl, .ty _, h1.ty s1.bs hn, kit_ty (kitD d1 hn y), ?_⟩
      have := q (.bl (isTy y d1)) B1 H1 s1 (by simp only [List.any_cons, List.any_nil, Bool.or_false]; exact .bl _)
      exact this
    · cases e
  · cases e⟩
theorem ev_isi2 {a : Expr} {fa : SE} {x z : Str} {k : Nat} {p p2 p3 p4 pos : Pos} (y w : Ty) (ha : EV X a fa) (hm : X.mg "isinstance" = none) (hm2 : X.mg x = none) (hm3 : X.mg z = none) (hv : bootBuiltins x = some (.type y.nm)) (hv2 : bootBuiltins z = some (.type w.nm)) (hg : Gl X "isinstance" := by rfl) (hg2 : Gl X x := by rfl) (hg3 : Gl X z := by rfl) (hn : x ≠ "__name__" := by decide) (hd : (x == ("__debug__" : Str)) = false := by decide) (hn2 : z ≠ "__name__" := by decide) (hd2 : (z == ("__debug__" : Str)) = false := by decide)
    (hs : starEach [a, .Tuple [.Name x p2, .Name z p3] k p4] X.env = (false, eval a X.env) :: starEach [.Tuple [.Name x p2, .Name z p3] k p4] X.env := by rfl) (hs2 : starEach [.Tuple [.Name x p2, .Name z p3] k p4] X.env = (false, eval (.Tuple [.Name x p2, .Name z p3] k p4) X.env) :: starEach [] X.env := by rfl)
    (hs3 : starEach [.Name x p2, .Name z p3] X.env = (false, eval (.Name x p2) X.env) :: starEach [.Name z p3] X.env := by rfl) (hs4 : starEach [.Name z p3] X.env = (false, eval (.Name z p3) X.env) :: starEach [] X.env := by rfl) (hpl : (backTo pos (starEach [.Tuple [.Name x p2, .Name z p3] k p4] X.env)).any (·.1) = false := by rfl) :
    EV X (.Call (.Name "isinstance" p) [a, .Tuple [.Name x p2, .Name z p3] k p4] [] pos) (cIsi [y, w] fa) :=
  ⟨pe_weak (pe_callB call_isiT hg hm (by decide +kernel) (pa_cons ha.pe (pa_cons (pe_tup (pa_cons (pe_bltn (v := .ty y.nm) hg2 hm2 hv rfl hn hd) (pa_cons (pe_bltn (v := .ty w.nm) hg3 hm3 hv2 rfl hn2 hd2) pa_nil hs4) hs3)) pa_nil hs2) hs) (by decide) (by decide) hs hpl) fun σ H Q h => by
  obtain ⟨g, B, env, t, d, t', r, e, q⟩ := h
  unfold cIsi at e
  split at e
  · rename_i d1 t1 e1
    split at e
    · rename_i hn
      cases e
      refine ⟨g, B, env, t, d1, _, r, e1, fun v B1 H1 s1 h1 => ⟨by show 2 ≤ sizeLine; decide, fun tp ht => ?_⟩⟩
      have s2 : Step g B1 H1 t' B1 (upd H1 tp (.tup [.ty y.nm, .ty w.nm])) := .hid s1.bs ht
      refine ⟨v, tp, [.ty y.nm, .ty w.nm], .type (tyOfD d1), [.type y.nm, .type w.nm], (isTy y d1 || isTy w d1), rfl, upd_same, .cons (.ty _) (.cons (.ty _) .nil), h1.ty s2.bs hn, ?_, ?_⟩
      · refine kitAny_cons (kit_ty (kitD d1 hn y)) (fun z => ?_) (fun z => by rw [z]; rfl)
        rw [z, Bool.false_or]
        exact kitAny_cons (kit_ty (kitD d1 hn w)) (fun z2 => by rw [z2]; exact kitAny_nil) (fun z2 => z2)
      · have := q (.bl (isTy y d1 || isTy w d1)) B1 _ (s1.trans r.bs s2) (by simp only [List.any_cons, List.any_nil, Bool.or_false]; exact .bl _)
        exact this
    · cases e
  · cases e⟩
end

/-! ### module constants -/
structure GlAt (K : PySem.W.Frag) (mg : Str → Option Value) (x : Str) (d : D) : Prop where
  ex : ∃ v u, mg x = some u ∧ RelV v u ∧ ∀ (g : G) (B : Hp), Hd K g B v d
theorem ev_glob {X : Cx} {x : Str} {d : D} {pos : Pos} (h : GlAt X.K X.mg x d) (hg : Gl X x := by rfl) (hd : (x == ("__debug__" : Str)) = false := by decide) : EV X (.Name x pos) (cC d) := by
  obtain ⟨v, u, h1, h2, h3⟩ := h.ex
  exact ev_c (pe_glob hg h1 h2 hd) h3

/-! ### the tape -/
def cTi (i : Nat) : SE := fun e t => match e[i]? with
  | some (some (.dict [(.none, .none)])) => some (.int t.i, t)
  | _ => none
def cTj (i : Nat) : SE := fun e t => match e[i]? with
  | some (some (.dict [(.none, .none)])) => some (.int t.j, t)
  | _ => none
def cTn (i : Nat) : SE := fun e t => match e[i]? with
  | some (some (.dict [(.none, .none)])) => some (.list (t.ns.map .int), t)
  | _ => none
section
variable {X : Cx} {x : Str} {p p2 pos : Pos} {k : Nat}
theorem Hd.isTape {K : PySem.W.Frag} {g : G} {B : Hp} {v : V} (h : Hd K g B v (.dict [(.none, .none)])) : v = .ref g.ta := by
  generalize e : (PyData.dict [(.none, .none)] : D) = d at h
  cases h with
  | tape => rfl
  | @dct a kvs ds h1 h2 =>
    exfalso
    injection e with e
    cases kvs with
    | nil => simp [zipK] at e
    | cons kv kvs =>
      cases ds with
      | nil => simp [zipK] at e
      | cons d ds =>
        simp only [List.map_cons, zipK] at e
        injection e with e _
        injection e with e _
        obtain ⟨k1, k2⟩ := kv
        cases k1 <;> simp [kD] at e
  | _ => cases e
theorem hd_ints {K : PySem.W.Frag} {g : G} {B : Hp} : ∀ ns : List Int, HdL K g B (ns.map V.int) (ns.map PyData.int)
  | [] => .nil
  | n :: ns => .cons (.int n) (hd_ints ns)
theorem ev_t1 (i : Nat) (hN : X.N[i]? = some x := by rfl) (hv : Vis X.env.scope x := by first | exact Or.inl rfl | exact Or.inr (Or.inl rfl) | exact Or.inr (Or.inr rfl)) (hd : (x == ("__debug__" : Str)) = false := by decide) (hcd : (x == ("__classdict__" : Str)) = false := by decide) :
    EV X (.Subscript (.Name x p) (.Constant (.int 1) k p2) pos) (cTi i) := ⟨pe_weak (pe_ix ix_list (pe_var hN hv hd hcd) pe_int (fun _ _ => rfl)) fun σ H Q h => by
  obtain ⟨g, B, env, t, d, t', r, e, q⟩ := h
  unfold cTi at e
  split at e
  · rename_i e1
    cases e
    obtain ⟨v, h1, h2⟩ := r.vars i _ e1
    cases h2.isTape
    exact ⟨_, h1, _, _, 1, _, rfl, rfl, SqL.of r.bs.tp, rfl, q _ B H (.refl r.bs) (.int _)⟩
  · cases e⟩
theorem ev_t2 (i : Nat) (hN : X.N[i]? = some x := by rfl) (hv : Vis X.env.scope x := by first | exact Or.inl rfl | exact Or.inr (Or.inl rfl) | exact Or.inr (Or.inr rfl)) (hd : (x == ("__debug__" : Str)) = false := by decide) (hcd : (x == ("__classdict__" : Str)) = false := by decide) :
    EV X (.Subscript (.Name x p) (.Constant (.int 2) k p2) pos) (cTj i) := ⟨pe_weak (pe_ix ix_list (pe_var hN hv hd hcd) pe_int (fun _ _ => rfl)) fun σ H Q h => by
  obtain ⟨g, B, env, t, d, t', r, e, q⟩ := h
  unfold cTj at e
  split at e
  · rename_i e1
    cases e
    obtain ⟨v, h1, h2⟩ := r.vars i _ e1
    cases h2.isTape
    exact ⟨_, h1, _, _, 2, _, rfl, rfl, SqL.of r.bs.tp, rfl, q _ B H (.refl r.bs) (.int _)⟩
  · cases e⟩
theorem ev_t0 (i : Nat) (hN : X.N[i]? = some x := by rfl) (hv : Vis X.env.scope x := by first | exact Or.inl rfl | exact Or.inr (Or.inl rfl) | exact Or.inr (Or.inr rfl)) (hd : (x == ("__debug__" : Str)) = false := by decide) (hcd : (x == ("__classdict__" : Str)) = false := by decide) :
    EV X (.Subscript (.Name x p) (.Constant (.int 0) k p2) pos) (cTn i) := ⟨pe_weak (pe_ix ix_list (pe_var hN hv hd hcd) pe_int (fun _ _ => rfl)) fun σ H Q h => by
  obtain ⟨g, B, env, t, d, t', r, e, q⟩ := h
  unfold cTn at e
  split at e
  · rename_i e1
    cases e
    obtain ⟨v, h1, h2⟩ := r.vars i _ e1
    cases h2.isTape
    exact ⟨_, h1, _, _, 0, _, rfl, rfl, SqL.of r.bs.tp, rfl, q _ B H (.refl r.bs) (.lst r.bs.cl (hd_ints _))⟩
  · cases e⟩
def sTi (i : Nat) (f : SE) : SS := fun e t => match f e t with
  | some (.int v, t') => match e[i]? with
    | some (some (.dict [(.none, .none)])) => some (.nx e { t' with i := v })
    | _ => none
  | _ => none
def sTj (i : Nat) (f : SE) : SS := fun e t => match f e t with
  | some (.int v, t') => match e[i]? with
    | some (some (.dict [(.none, .none)])) => some (.nx e { t' with j := v })
    | _ => none
  | _ => none
theorem RepS.retape {K : PySem.W.Frag} {g : G} {fg : FG} {o : List Nat} {B H : Hp} {σ : Sg} {env : Env} {t t' : T} {l : List V} (r : RepS K g fg o B H σ env t) (hn : t'.ns = t.ns) (e : l = [.ref g.ca, .int t'.i, .int t'.j]) : RepS K g fg o B (upd H g.ta (.lst l)) σ env t' where
  bs := ⟨fun b x h => by rw [upd_ne (fun z => by rw [z, r.bs.tb] at h; cases h)]; exact r.bs.sub b x h, by rw [upd_same, e], r.bs.tb, by rw [hn]; exact r.bs.cl⟩
  len := r.len
  vars := r.vars
  own := fun i d h1 h2 => by
    obtain ⟨p, k1, k2, k3, k4, k5⟩ := r.own i d h1 h2
    exact ⟨p, k1, k2, k3, k4, k5.move (upd_ne k2) (.refl _)⟩
  sep := r.sep
  keep0 := fun b x hb h => by rw [upd_ne hb]; exact r.keep0 b x hb h
  b0 := r.b0
  sep0 := r.sep0
  t0 := r.t0
  tb0 := r.tb0
variable {R : RT} {e : Expr} {f : SE} {pos' : Pos}
theorem es_t1 (i : Nat) (h : EVS X [] e f) (hN : X.N[i]? = some x := by rfl) (hv : Vis X.env.scope x := by first | exact Or.inl rfl | exact Or.inr (Or.inl rfl) | exact Or.inr (Or.inr rfl)) (hd : (x == ("__debug__" : Str)) = false := by decide) (hcd : (x == ("__classdict__" : Str)) = false := by decide)
    (hs : swapsWithSole [.Subscript (.Name x p) (.Constant (.int 1) k p2) pos'] e pos.line X.env = pure false := by rfl) (hw : swappedStores [.Subscript (.Name x p) (.Constant (.int 1) k p2) pos'] e X.env = pure none := by rfl)
    (h1 : (assignEach [.Subscript (.Name x p) (.Constant (.int 1) k p2) pos'] X.env).map (·.2) = [assign (.Subscript (.Name x p) (.Constant (.int 1) k p2) pos') X.env] := by rfl) :
    ES X R [] (.Assign [.Subscript (.Name x p) (.Constant (.int 1) k p2) pos'] e pos) (sTi i f) [] := ⟨ps_weak (ps_asg h.pe (pg_sub (pe_var hN hv hd hcd) pe_int set_list) hs hw h1) fun E σ H h => by
  obtain ⟨g, fg, B, env, t, r, rp, e, q⟩ := h
  unfold sTi at e
  split at e
  · rename_i v t1 ef
    split at e
    · rename_i e1
      cases e
      refine ⟨g, fg, B, env, t, _, t1, rp, ef, fun w B1 H1 r1 _ h1 => ?_⟩
      cases h1
      obtain ⟨u, k1, k2⟩ := r1.vars i _ (by simp) e1
      cases k2.isTape
      exact ⟨_, k1, _, _, 1, 1, rfl, rfl, r1.bs.tp, rfl, q σ B1 _ (r1.retape (t' := { t1 with i := v }) rfl rfl)⟩
    · cases e
  · cases e⟩
theorem es_t2 (i : Nat) (h : EVS X [] e f) (hN : X.N[i]? = some x := by rfl) (hv : Vis X.env.scope x := by first | exact Or.inl rfl | exact Or.inr (Or.inl rfl) | exact Or.inr (Or.inr rfl)) (hd : (x == ("__debug__" : Str)) = false := by decide) (hcd : (x == ("__classdict__" : Str)) = false := by decide)
    (hs : swapsWithSole [.Subscript (.Name x p) (.Constant (.int 2) k p2) pos'] e pos.line X.env = pure false := by rfl) (hw : swappedStores [.Subscript (.Name x p) (.Constant (.int 2) k p2) pos'] e X.env = pure none := by rfl)
    (h1 : (assignEach [.Subscript (.Name x p) (.Constant (.int 2) k p2) pos'] X.env).map (·.2) = [assign (.Subscript (.Name x p) (.Constant (.int 2) k p2) pos') X.env] := by rfl) :
    ES X R [] (.Assign [.Subscript (.Name x p) (.Constant (.int 2) k p2) pos'] e pos) (sTj i f) [] := ⟨ps_weak (ps_asg h.pe (pg_sub (pe_var hN hv hd hcd) pe_int set_list) hs hw h1) fun E σ H h => by
  obtain ⟨g, fg, B, env, t, r, rp, e, q⟩ := h
  unfold sTj at e
  split at e
  · rename_i v t1 ef
    split at e
    · rename_i e1
      cases e
      refine ⟨g, fg, B, env, t, _, t1, rp, ef, fun w B1 H1 r1 _ h1 => ?_⟩
      cases h1
      obtain ⟨u, k1, k2⟩ := r1.vars i _ (by simp) e1
      cases k2.isTape
      exact ⟨_, k1, _, _, 2, 2, rfl, rfl, r1.bs.tp, rfl, q σ B1 _ (r1.retape (t' := { t1 with j := v }) rfl rfl)⟩
    · cases e
  · cases e⟩
end

/-! ### while -/
def loopW (c : ST) (body : SS) : Nat → SS
  | 0, _, _ => none
  | n + 1, e, t => match c e t with
    | some (false, t1) => some (.nx e t1)
    | some (true, t1) => match body e t1 with
      | some (.nx e2 t2) => loopW c body n e2 t2
      | some (.rt d t2) => some (.rt d t2)
      | none => none
    | none => none
def FUEL : Nat := 100000
def sWhile (c : ST) (body : SS) : SS := fun e t => loopW c body FUEL e t
theorem loopW_mono {c : ST} {body : SS} {r : Out} : ∀ {n m : Nat} {e : Env} {t : T}, n ≤ m → loopW c body n e t = some r → loopW c body m e t = some r
  | 0, _, _, _, _, h => by cases h
  | n + 1, 0, _, _, l, _ => by omega
  | n + 1, m + 1, e, t, l, h => by
    unfold loopW at h ⊢
    split at h
    · exact h
    · split at h
      · exact loopW_mono (by omega) h
      · exact h
      · cases h
    · cases h
theorem es_while {X : Cx} {R : RT} {o : List Nat} {c : Expr} {body : List Stmt} {fc : ST} {fb : SS} {pos : Pos} (hc : ETS X o c fc) (hb : ESs X R o body fb o) (hp : PassesOwn (model X.prog X.w) X.A X.env X.xe) : ES X R o (.While c body [] pos) (sWhile fc fb) o := ⟨ps_weak (ps_while hp hc.pt hb.pss) fun E σ H h => by
  obtain ⟨g, fg, B, env, t, r, rp, e, q⟩ := h
  unfold sWhile at e
  refine ⟨fun n σ H => ∃ B env t, RepS X.K g fg o B H σ env t ∧ loopW fc fb n env t = some r, ⟨FUEL, B, env, t, rp, e⟩, ?_⟩
  rintro n σ2 H2 ⟨B2, env2, t2, r2, e2⟩
  cases n with
  | zero => cases e2
  | succ n =>
    unfold loopW at e2
    split at e2
    · rename_i t3 ec
      cases e2
      refine ⟨g, fg, B2, env2, t2, _, t3, r2, ec, fun B3 H3 r3 => ?_⟩
      refine iteF ?_
      exact q σ2 B3 H3 r3
    · rename_i t3 ec
      refine ⟨g, fg, B2, env2, t2, _, t3, r2, ec, fun B3 H3 r3 => ?_⟩
      refine iteT ?_
      split at e2
      · rename_i e4 t4 eb
        exact ⟨fun σ' H' => ∃ B env t, RepS X.K g fg o B H' σ' env t ∧ loopW fc fb n env t = some r, fun σ' H' h => ⟨n, Nat.lt_succ_self _, h⟩, g, fg, B3, env2, t3, _, r3, eb, fun σ5 B5 H5 r5 => ⟨B5, e4, t4, r5, e2⟩⟩
      · rename_i d4 t4 eb
        cases e2
        exact ⟨fun σ' H' => ∃ B env t, RepS X.K g fg o B H' σ' env t ∧ loopW fc fb n env t = some (.rt d4 t4), fun σ' H' h => ⟨n, Nat.lt_succ_self _, h⟩, g, fg, B3, env2, t3, _, r3, eb, q⟩
      · cases e2
    · cases e2⟩
end PP

namespace PP
open PySem PySem.Spec PyProof.Rows L2

/-! ### an own cell written -/
theorem RepS.mut {K : PySem.W.Frag} {g : G} {fg : FG} {o : List Nat} {B H : Hp} {σ : Sg} {env : Env} {t : T} {i : Nat} {p : Addr} {d d' : D} {x : HO} (r : RepS K g fg o B H σ env t) (hi : i ∈ o) (ei : env[i]? = some (some d)) (si : σ[i]? = some (some (.ref p)))
    (h : OwnAt K g B (upd H p x) p d') : RepS K g fg o B (upd H p x) σ (env.set i (some d')) t := by
  obtain ⟨p', s2, h1, h2, h3, h4⟩ := r.own i d hi ei
  rw [si] at s2
  cases s2
  have hl : i < env.length := by
    rcases Nat.lt_or_ge i env.length with z | z
    · exact z
    · rw [List.getElem?_eq_none (by simpa using z)] at ei; cases ei
  refine ⟨⟨fun b y e => ?_, by rw [upd_ne (Ne.symm h1)]; exact r.bs.tp, r.bs.tb, r.bs.cl⟩, by rw [List.length_set]; exact r.len, fun j e hj ej => ?_, fun j e hj ej => ?_, fun j k q d1 d2 hj hk hjk ej ek sj => ?_, fun b y hb e => ?_, r.b0, r.sep0, r.t0, r.tb0⟩
  · rw [upd_ne (fun z => by rw [z, h2] at e; cases e)]; exact r.bs.sub b y e
  · rw [List.getElem?_set_ne (fun z => hj (by rw [← z]; exact hi))] at ej
    exact r.vars j e hj ej
  · by_cases hij : i = j
    · subst hij
      rw [List.getElem?_set_self hl] at ej
      cases ej
      exact ⟨p, si, h1, h2, h3, h⟩
    · rw [List.getElem?_set_ne hij] at ej
      obtain ⟨q, k1, k2, k3, k4, k5⟩ := r.own j e hj ej
      refine ⟨q, k1, k2, k3, k4, k5.move (upd_ne fun z => ?_) (.refl _)⟩
      subst z
      exact r.sep i j q d e hi hj hij ei ej si k1
  · have key : ∀ (j : Nat) (d1 : D), (env.set i (some d'))[j]? = some (some d1) → ∃ d2, env[j]? = some (some d2) := fun j d1 ej => by
      by_cases hij : i = j
      · subst hij; exact ⟨d, ei⟩
      · rw [List.getElem?_set_ne hij] at ej; exact ⟨d1, ej⟩
    obtain ⟨e1, f1⟩ := key j d1 ej
    obtain ⟨e2, f2⟩ := key k d2 ek
    exact r.sep j k q e1 e2 hj hk hjk f1 f2 sj
  · rw [upd_ne (fun z => by rw [z, h3] at e; cases e)]
    exact r.keep0 b y hb e
theorem OwnAt.list {K : PySem.W.Frag} {g : G} {B H : Hp} {p : Addr} {ds : List D} (h : OwnAt K g B H p (.list ds)) : ∃ xs, H p = some (.lst xs) ∧ HdL K g B xs ds := by
  generalize e : (PyData.list ds : D) = d at h
  cases h with
  | lst h k => cases e; exact ⟨_, h, k⟩
  | dct h k => cases e
  | dx _ _ _ _ _ => cases e
section
variable {X : Cx} {R : RT} {o : List Nat} {x : Str} {e : Expr} {f : SE} {p p2 p3 p4 : Pos}
def sApp (i : Nat) (f : SE) : SS := fun e t => match f e t with
  | some (d, t') => match e[i]? with
    | some (some (.list ds)) => if ds.length < LIM then some (.nx (e.set i (some (.list (ds ++ [d])))) t') else none
    | _ => none
  | none => none
theorem es_append (i : Nat) (h : EVS X o e f) (ho : i ∈ o := by decide) (hN : X.N[i]? = some x := by rfl) (hv : Vis X.env.scope x := by first | exact Or.inl rfl | exact Or.inr (Or.inl rfl) | exact Or.inr (Or.inr rfl)) (hd : (x == ("__debug__" : Str)) = false := by decide) (hcd : (x == ("__classdict__" : Str)) = false := by decide)
    (hbase : attributeBase (.Name x p) "append" X.env (eval (.Name x p) X.env) = eval (.Name x p) X.env := by rfl)
    (hfew : ((backTo p3 (starEach [e] X.env)).all (fun x => !x.1) && (backToKw p3 (keywordEach [] X.env)).all (fun x => x.1.isSome) && decide ([e].length + ([] : List Keyword).length + (if ([] : List Keyword).isEmpty then 0 else 1) < 30)) = true := by rfl)
    (hline : (p2.endLine == p3.line) = true := by rfl) (hs : starEach [e] X.env = (false, eval e X.env) :: starEach [] X.env := by rfl) (hsw : swapsWith (.Call (.Attribute (.Name x p) "append" p2) [e] [] p3) none p4.line X.env = pure false := by rfl) :
    ES X R o (.Expr (.Call (.Attribute (.Name x p) "append" p2) [e] [] p3) p4) (sApp i f) o := ⟨ps_weak (ps_expr (pe_bm PySem.F.plainAttrs_list PySem.F.slot_list_append PySem.F.type_list_append mt_append (pe_var hN hv hd hcd) (pa_cons h.pe pa_nil hs) hbase hfew hline hs rfl) hsw) fun E σ H h => by
  obtain ⟨g, fg, B, env, t, r, rp, e, q⟩ := h
  unfold sApp at e
  split at e
  · rename_i d t' ef
    split at e
    · rename_i ds ei
      split at e
      · rename_i hl
        cases e
        obtain ⟨p, s1, k1, k2, k3, k4⟩ := rp.own i _ ho ei
        obtain ⟨xs, hx, hd⟩ := k4.list
        refine ⟨_, s1, .inl ⟨rfl, xs, SqL.of hx⟩, g, fg, B, env, t, d, t', rp, ef, fun v B1 H1 r1 sb1 h1 => ?_⟩
        obtain ⟨p', s1', _, _, _, k4'⟩ := r1.own i _ ho ei
        rw [s1] at s1'
        cases s1'
        obtain ⟨xs', hx', hd'⟩ := k4'.list
        refine ⟨p, xs', v, rfl, rfl, hx', lim_lt (by rw [hd'.len]; exact hl), ?_⟩
        exact q σ B1 _ (r1.mut ho ei s1 (.lst upd_same (hd'.app (.cons h1 .nil))))
      · cases e
    · cases e
  · cases e⟩
/-- list.extend of a list or a tuple -/
def rExtA (K : PySem.W.Frag) : V → List V → Hp → VK → Prop := fun x vs H Q => ∃ l b xs zs, x = .ref l ∧ vs = [.ref b] ∧ H l = some (.lst xs) ∧ (H b = some (.lst zs) ∨ TpAt K H b zs) ∧ xs.length + zs.length ≤ sizeLine ∧ Q .non (upd H l (.lst (xs ++ zs)))
theorem mt_extendA : MtR X "list.extend" (rExtA X.K) := by
  intro pins s σ H x vs v us Q I rx rv h
  obtain ⟨l, b, xs, zs, rfl, rfl, hH, hB, hz, q⟩ := h
  rcases hB with hB | hB
  · exact mt_extend pins s σ H _ _ v us Q I rx rv ⟨l, b, xs, zs, rfl, rfl, hH, hB, hz, q⟩
  · obtain rfl : v = .ref l := rx
    obtain ⟨u, rfl, ru⟩ := rv.one
    obtain rfl : u = .ref b := ru
    obtain ⟨z, its, n, r, hl, e⟩ := I.lstM hH
    have key : ∃ (its2 : List Value) (n2 : Nat), Vals zs its2 ∧ s.heap.get? b = some { cls := .type "tuple", dict := none, data := .seq its2.toArray n2, slots := #[] } := by
      rcases hB with ⟨ob, hb, hd, hs⟩ | ⟨ob, its, n, hk, hc, ⟨hd, hs⟩, hda, hsz, rv⟩
      · obtain ⟨ho, _, its, rv, ob', ho', hc, n, hda⟩ := (show ObjOk X.prog X.w H s.heap b (.frz ob (.tup zs)) from I.hok b _ hb)
        rw [ho] at ho'
        cases ho'
        obtain ⟨c, d, da, sl⟩ := ob
        simp only at hd hs hc hda
        subst hd hs hc hda
        exact ⟨its, n, rv, ho⟩
      · obtain ⟨c, d, da, sl⟩ := ob
        simp only at hd hs hc hda
        subst hd hs hc hda
        exact ⟨its.toList, n, rv, by rw [Array.toArray_toList]; exact I.kIn b _ hk⟩
    obtain ⟨its2, n2, r2, e2⟩ := key
    have hl2 := r2.length
    have hsz : its.toArray.size + its2.toArray.size ≤ sizeLine := by rw [List.size_toArray, List.size_toArray]; omega
    have hno : ¬ (!its.toArray.isEmpty && Builtin.List.listTooLong (its.toArray.size + its2.toArray.size)) = true := by
      rw [notLongL hsz, Bool.and_false]
      exact Bool.false_ne_true
    refine call_meets F.slot_list_extend ⟨_, e, rfl⟩ F.entry_list_extend (F.args_list_extend_2 _ _) (AutoSeq1.list_extend_list_tuple_0 l its.toArray n b its2.toArray n2 hno (by rw [List.size_toArray]; omega) (by omega)) ⟨e, e2, ?_⟩
    refine ⟨.non, _, I.lset (its' := its ++ its2) (t' := s.toks) hH e (by simp) (r.append r2) ?_, rfl, q⟩
    rw [List.length_append]
    omega
def sExt (i : Nat) (f : SE) : SS := fun e t => match f e t with
  | some (.list es, t') => (match e[i]? with
    | some (some (.list ds)) => if ds.length + es.length ≤ LIM then some (.nx (e.set i (some (.list (ds ++ es)))) t') else none
    | _ => none)
  | some (.tuple es, t') => (match e[i]? with
    | some (some (.list ds)) => if ds.length + es.length ≤ LIM then some (.nx (e.set i (some (.list (ds ++ es)))) t') else none
    | _ => none)
  | _ => none
theorem es_extend (i : Nat) (h : EVS X o e f) (ho : i ∈ o := by decide) (hN : X.N[i]? = some x := by rfl) (hv : Vis X.env.scope x := by first | exact Or.inl rfl | exact Or.inr (Or.inl rfl) | exact Or.inr (Or.inr rfl)) (hd : (x == ("__debug__" : Str)) = false := by decide) (hcd : (x == ("__classdict__" : Str)) = false := by decide)
    (hbase : attributeBase (.Name x p) "extend" X.env (eval (.Name x p) X.env) = eval (.Name x p) X.env := by rfl)
    (hfew : ((backTo p3 (starEach [e] X.env)).all (fun x => !x.1) && (backToKw p3 (keywordEach [] X.env)).all (fun x => x.1.isSome) && decide ([e].length + ([] : List Keyword).length + (if ([] : List Keyword).isEmpty then 0 else 1) < 30)) = true := by rfl)
    (hline : (p2.endLine == p3.line) = true := by rfl) (hs : starEach [e] X.env = (false, eval e X.env) :: starEach [] X.env := by rfl) (hsw : swapsWith (.Call (.Attribute (.Name x p) "extend" p2) [e] [] p3) none p4.line X.env = pure false := by rfl) :
    ES X R o (.Expr (.Call (.Attribute (.Name x p) "extend" p2) [e] [] p3) p4) (sExt i f) o := ⟨ps_weak (ps_expr (pe_bm PySem.F.plainAttrs_list PySem.F.slot_list_extend PySem.F.type_list_extend mt_extendA (pe_var hN hv hd hcd) (pa_cons h.pe pa_nil hs) hbase hfew hline hs rfl) hsw) fun E σ H h => by
  obtain ⟨g, fg, B, env, t, r, rp, e, q⟩ := h
  have go : ∀ (d : D) (es ds : List D) (t' : T), (d = .list es ∨ d = .tuple es) → f env t = some (d, t') → env[i]? = some (some (.list ds)) → ds.length + es.length ≤ LIM → r = .nx (env.set i (some (.list (ds ++ es)))) t' →
      tDrop (tBM X.K "list" (rExtA X.K) (tVar i) (tCons (tDS X.K o f) tNil)) E σ H := by
    rintro d es ds t' hde ef ei hl rfl
    obtain ⟨p, s1, k1, k2, k3, k4⟩ := rp.own i _ ho ei
    obtain ⟨xs, hx, hd⟩ := k4.list
    refine ⟨_, s1, .inl ⟨rfl, xs, SqL.of hx⟩, g, fg, B, env, t, d, t', rp, ef, fun v B1 H1 r1 sb1 h1 => ?_⟩
    obtain ⟨p', s1', _, _, _, k4'⟩ := r1.own i _ ho ei
    rw [s1] at s1'
    cases s1'
    obtain ⟨xs', hx', hd'⟩ := k4'.list
    rcases hde with rfl | rfl
    · cases h1 with
      | lst h1 h2 =>
        refine ⟨p, _, xs', _, rfl, rfl, hx', .inl (r1.bs.sub _ _ h1), lim_le (by rw [hd'.len, h2.len]; exact hl), ?_⟩
        exact q σ B1 _ (r1.mut ho ei s1 (.lst upd_same (hd'.app h2)))
    · cases h1 with
      | tup h1 h2 =>
        refine ⟨p, _, xs', _, rfl, rfl, hx', .inr (r1.bs.sub.tp h1), lim_le (by rw [hd'.len, h2.len]; exact hl), ?_⟩
        exact q σ B1 _ (r1.mut ho ei s1 (.lst upd_same (hd'.app h2)))
  unfold sExt at e
  split at e
  · rename_i es t' ef
    split at e
    · rename_i ds ei
      split at e
      · rename_i hl
        cases e
        exact go _ es ds t' (.inl rfl) ef ei hl rfl
      · cases e
    · cases e
  · rename_i es t' ef
    split at e
    · rename_i ds ei
      split at e
      · rename_i hl
        cases e
        exact go _ es ds t' (.inr rfl) ef ei hl rfl
      · cases e
    · cases e
  · cases e⟩
/-- x[k] = e, x an own list -/
def sStore (i : Nat) (f k : SE) : SS := fun e t => match f e t with
  | some (d, t1) => match k e t1 with
    | some (.int z, t2) => match e[i]? with
      | some (some (.list ds)) => match ixN ds.length z with
        | some j => some (.nx (e.set i (some (.list (ds.set j d)))) t2)
        | none => none
      | _ => none
    | _ => none
  | none => none
theorem es_store (i : Nat) {ke : Expr} {k : SE} (h : EVS X o e f) (hk : EVS X o ke k) (ho : i ∈ o := by decide) (hN : X.N[i]? = some x := by rfl) (hv : Vis X.env.scope x := by first | exact Or.inl rfl | exact Or.inr (Or.inl rfl) | exact Or.inr (Or.inr rfl)) (hd : (x == ("__debug__" : Str)) = false := by decide) (hcd : (x == ("__classdict__" : Str)) = false := by decide)
    (hg : ∀ v, assign (.Subscript (.Name x p) ke p2) X.env v = (do
      let ov ← holding [v] (eval (.Name x p) X.env)
      let iv ← holding [v, ov] (eval ke X.env)
      standAt p2
      holding [v, ov, iv] (setItem ov iv v)
      release [v, ov, iv] []) := by intro _; rfl)
    (hs : swapsWithSole [.Subscript (.Name x p) ke p2] e p3.line X.env = pure false := by rfl) (hw : swappedStores [.Subscript (.Name x p) ke p2] e X.env = pure none := by rfl) (h1 : (assignEach [.Subscript (.Name x p) ke p2] X.env).map (·.2) = [assign (.Subscript (.Name x p) ke p2) X.env] := by rfl) :
    ES X R o (.Assign [.Subscript (.Name x p) ke p2] e p3) (sStore i f k) o := ⟨ps_weak (ps_asg h.pe (pg_sub (pe_var hN hv hd hcd) hk.pe set_list hg) hs hw h1) fun E σ H h => by
  obtain ⟨g, fg, B, env, t, r, rp, e, q⟩ := h
  unfold sStore at e
  split at e
  · rename_i d t1 ef
    split at e
    · rename_i z t2 ek
      split at e
      · rename_i ds ei
        split at e
        · rename_i j ej
          cases e
          obtain ⟨p, s1, k1, k2, k3, k4⟩ := rp.own i _ ho ei
          refine ⟨g, fg, B, env, t, d, t1, rp, ef, fun v B1 H1 r1 sb1 h1 => ?_⟩
          refine ⟨_, s1, g, fg, B1, env, t1, _, t2, r1, ek, fun w B2 H2 r2 sb2 h2 => ?_⟩
          cases h2
          obtain ⟨p', s1', _, _, _, k4'⟩ := r2.own i _ ho ei
          rw [s1] at s1'
          cases s1'
          obtain ⟨xs', hx', hd'⟩ := k4'.list
          refine ⟨p, xs', z, j, rfl, rfl, hx', by rw [hd'.len]; exact ej, ?_⟩
          exact q σ B2 _ (r2.mut ho ei s1 (.lst upd_same (hd'.set j (h1.mono sb2))))
        · cases e
      · cases e
    · cases e
  · cases e⟩
end
end PP

namespace PP
open PySem PySem.Spec PyProof.Rows L2

/-! ### t.count(x), t a tuple -/
def dCount : D → D → Option D
  | .tuple xs, d => if PyData.plainAll xs = true ∧ okD d = true then some (.int (xs.countP fun y => PyData.eqv y d : Nat)) else none
  | _, _ => none
section
variable {X : Cx} {a b e : Expr} {fa fb f : SE} {pos p p1 p2 p3 p4 apos cpos : Pos}
theorem TpAt.here {pins : List (Addr × Obj)} {σ : L2.St} {H : Hp} {s : Shared} (I : Inv X pins σ H s) {q : Addr} {zs : List V} (h : TpAt X.K H q zs) : ∃ (its : List Value) (n : Nat), Vals zs its ∧ s.heap.get? q = some { cls := .type "tuple", dict := none, data := .seq its.toArray n, slots := #[] } := by
  rcases h with ⟨ob, hb, hd, hs⟩ | ⟨ob, its, n, hk, hc, ⟨hd, hs⟩, hda, hsz, rv⟩
  · obtain ⟨ho, _, its, rv, ob', ho', hc, n, hda⟩ := (show ObjOk X.prog X.w H s.heap q (.frz ob (.tup zs)) from I.hok q _ hb)
    rw [ho] at ho'
    cases ho'
    obtain ⟨c, d, da, sl⟩ := ob
    simp only at hd hs hc hda
    subst hd hs hc hda
    exact ⟨its, n, rv, ho⟩
  · obtain ⟨c, d, da, sl⟩ := ob
    simp only at hd hs hc hda
    subst hd hs hc hda
    exact ⟨its.toList, n, rv, by rw [Array.toArray_toList]; exact I.kIn q _ hk⟩
theorem ev_tcount (ha : EV X a fa) (hb : EV X b fb) (hu : X.A.units + 100 < cLine) (hbase : attributeBase a "count" X.env (eval a X.env) = eval a X.env := by rfl)
    (hfew : ((backTo cpos (starEach [b] X.env)).all (fun x => !x.1) && (backToKw cpos (keywordEach [] X.env)).all (fun x => x.1.isSome) && decide ([b].length + ([] : List Keyword).length + (if ([] : List Keyword).isEmpty then 0 else 1) < 30)) = true := by rfl)
    (hline : (apos.endLine == cpos.line) = true := by rfl) (hs : starEach [b] X.env = (false, eval b X.env) :: starEach [] X.env := by rfl) :
    EV X (.Call (.Attribute a "count" apos) [b] [] cpos) (cBin dCount fa fb) := by
  refine ⟨⟨fun pins s σ H Q I h => ?_⟩⟩
  obtain ⟨g, B, env, t, d, t', r, e, q⟩ := h
  unfold cBin at e
  split at e
  · rename_i da t1 ea
    split at e
    · rename_i db t2 eb
      split at e
      · rename_i z ez
        cases e
        unfold dCount at ez
        split at ez
        · rename_i xs
          split at ez
          · rename_i hk
            cases ez
            refine wpAny_Call_method_late hbase hfew hline rfl (thn (ha.pe.run pins s σ H (fun v H1 => ∃ B1, Step g B H t1 B1 H1 ∧ Hd X.K g B1 v (.tuple xs)) I ⟨g, B, env, t, _, _, r, ea, fun v B1 H1 s1 h1 => ⟨B1, s1, h1⟩⟩) fun v s1 h1 => ?_)
            obtain ⟨x1, H1, I1, rv, B1, st1, hd1⟩ := h1
            cases hd1 with
            | @tup q1 zs _ ht hl =>
              obtain rfl : v = .ref q1 := rv
              obtain ⟨its, n, rvs, ho⟩ := (st1.bs.sub.tp ht).here I1
              refine ⟨"tuple", "tuple.count", PySem.F.plainAttrs_tuple, PySem.F.slot_tuple_count, PySem.F.type_tuple_count, ⟨_, ho, rfl⟩, fun a' ea' => by cases ea'; exact ⟨_, ho, rfl⟩, ?_⟩
              rw [hs]
              refine Calls.callWith_builtin rfl (Calls.evalArgs_plain ?_)
              refine Calls.spliced_cons (thn (hb.pe.run pins s1 σ H1 (fun v H2 => ∃ B2, Step g B1 H1 t' B2 H2 ∧ Hd X.K g B2 v db) I1 ⟨g, B1, env, t1, _, _, r.step st1, eb, fun v B2 H2 s2 h2 => ⟨B2, s2, h2⟩⟩) fun u s2 h2 => ?_)
              obtain ⟨x2, H2, I2, ru, B2, st2, hd2⟩ := h2
              refine Calls.spliced_nil ?_
              obtain ⟨its2, n2, rvs2, ho2⟩ := (st2.bs.sub.tp (st2.b1.tp ht)).here I2
              have kd := okD_ok hk.2
              obtain ⟨as2, r2⟩ := Dp.reads I2 db x2 u (hd2.dp st2.bs.sub kd.1) ru
              obtain ⟨as1, r1⟩ := Dp.readsAll I2 xs zs its2 ((hl.mono st2.b1).dp st2.bs.sub hk.1) rvs2
              have hmin : X.A.units + 1 + min (PyData.depthAll xs) db.depth < cLine := by omega
              refine SeqAt.count_tuple_data (vs := its2.toArray) ⟨_, ho2, rfl, n2, rfl⟩ (by simpa using r1) r2 hk.1 kd.1 hmin ?_
              exact ⟨.int _, H2, I2.tok _, ⟨_, rfl⟩, q _ B2 H2 (st1.trans r.bs st2) (.int _)⟩
          · cases ez
        · cases ez
      · cases e
    · cases e
  · cases e

/-! ### slices -/
def tDO (K : PySem.W.Frag) (f : Env → T → Option (Option Int × T)) : TO := fun (σ : Sg) H Q => ∃ g B env t o t', Rep K g B H σ env t ∧ f env t = some (o, t') ∧ ∀ B' H', Step g B H t' B' H' → Q o H'
structure EO (X : Cx) (e : Option Expr) (f : Env → T → Option (Option Int × T)) : Prop where
  po : PO X e (tDO X.K f)
theorem po_weak {e : Option Expr} {t t' : TO} (h : PO X e t) (w : ∀ σ H Q, t' σ H Q → t σ H Q) : PO X e t' := ⟨fun pins s σ H Q I q => h.run pins s σ H Q I (w σ H Q q)⟩
def oNo : Env → T → Option (Option Int × T) := fun _ t => some (none, t)
def oAt (f : SE) : Env → T → Option (Option Int × T) := fun e t => match f e t with
  | some (.int i, t') => some (some i, t')
  | _ => none
theorem eo_none : EO X none oNo := ⟨po_weak po_none fun σ H Q h => by
  obtain ⟨g, B, env, t, o, t', r, e, q⟩ := h
  cases e
  exact q B H (.refl r.bs)⟩
theorem eo_some (h : EV X e f) : EO X (some e) (oAt f) := ⟨po_weak (po_some h.pe) fun σ H Q h => by
  obtain ⟨g, B, env, t, o, t', r, e, q⟩ := h
  unfold oAt at e
  split at e
  · rename_i i t1 ef
    cases e
    exact ⟨g, B, env, t, _, _, r, ef, fun v B1 H1 s1 h1 => by cases h1; exact ⟨i, rfl, q B1 H1 s1⟩⟩
  · cases e⟩
def cutD (xs : List D) (lo hi : Option Int) : List D := (xs.drop (HT.sIx xs.length 0 lo)).take (HT.sIx xs.length xs.length hi - HT.sIx xs.length 0 lo)
def dSl : D → Option Int → Option Int → Option D
  | .list xs, lo, hi => some (.list (cutD xs lo hi))
  | .tuple xs, lo, hi => some (.tuple (cutD xs lo hi))
  | .str z, lo, hi => if z.length ≤ LIM then some (.str (cutS z lo hi)) else none
  | _, _, _ => none
def cSl (f : SE) (lo hi : Env → T → Option (Option Int × T)) : SE := fun e t => match f e t with
  | some (d, t1) => match lo e t1 with
    | some (l, t2) => match hi e t2 with
      | some (h, t3) => match dSl d l h with
        | some z => some (z, t3)
        | none => none
      | none => none
    | none => none
  | none => none
def rSlAll (K : PySem.W.Frag) : V → Option Int → Option Int → Hp → VK → Prop := fun x lo hi H Q => rSlL K x lo hi H Q ∨ rSlZ K x lo hi H Q ∨ rSlS x lo hi H Q
theorem sl_all : SlR X (rSlAll X.K) := sl_list.or (sl_tupZ.or sl_str)
theorem HdL.cut {K : PySem.W.Frag} {g : G} {B : Hp} {xs : List V} {ds : List D} (h : HdL K g B xs ds) (lo hi : Option Int) : HdL K g B (cutV xs lo hi) (cutD ds lo hi) := by
  unfold cutV cutD
  rw [h.len]
  exact (h.drop _).take _
theorem cut_whole {xs : List V} {lo hi : Option Int} (hw : HT.sIx xs.length 0 lo = 0 ∧ HT.sIx xs.length xs.length hi = xs.length) : cutV xs lo hi = xs := by
  unfold cutV
  rw [hw.1, hw.2]
  simp
theorem ev_slice {lo hi : Option Expr} {fl fh : Env → T → Option (Option Int × T)} (ha : EV X a fa) (hl : EO X lo fl) (hh : EO X hi fh) : EV X (.Subscript a (.Slice lo hi none p2) pos) (cSl fa fl fh) :=
  ⟨pe_weak (pe_slice sl_all ha.pe hl.po hh.po) fun σ H Q h => by
  obtain ⟨g, B, env, t, d, t', r, e, q⟩ := h
  unfold cSl at e
  split at e
  · rename_i d1 t1 e1
    split at e
    · rename_i l t2 e2
      split at e
      · rename_i u t3 e3
        split at e
        · rename_i z ez
          cases e
          refine ⟨g, B, env, t, d1, t1, r, e1, fun v B1 H1 s1 h1 => ⟨g, B1, env, t1, l, t2, r.step s1, e2, fun B2 H2 s2 => ⟨g, B2, env, t2, u, _, (r.step s1).step s2, e3, fun B3 H3 s3 => ?_⟩⟩⟩
          have s12 := s1.trans r.bs s2
          have s13 := s12.trans r.bs s3
          have hd := (h1.mono s2.b1).mono s3.b1
          have q' : ∀ v B4 H4, Step g B3 H3 t' B4 H4 → Hd X.K g B4 v d → Q v H4 := fun v B4 H4 s4 h4 => q v B4 H4 (s13.trans r.bs s4) h4
          unfold dSl at ez
          split at ez
          · cases ez
            cases hd with
            | lst k1 k2 => exact .inl ⟨_, _, rfl, SqL.of (s13.bs.sub _ _ k1), fun p np => s13.bs.lst (k2.cut l u) np q'⟩
          · cases ez
            cases hd with
            | tup k1 k2 =>
              refine .inr (.inl ⟨_, _, rfl, s13.bs.sub.sqt k1.sq, fun hw => ?_, fun _ p ob np od => s13.bs.tup (k2.cut l u) np od q'⟩)
              have := k2.cut l u
              rw [cut_whole hw] at this
              exact q' _ _ _ (.refl s13.bs) (.tup k1 this)
          · split at ez
            · rename_i hl
              cases ez
              cases hd
              exact .inr (.inr ⟨_, rfl, lim_le hl, q' _ _ _ (.refl s13.bs) (.str _)⟩)
            · cases ez
          · cases ez
        · cases e
      · cases e
    · cases e
  · cases e⟩
theorem ef_slice {lo hi : Option Expr} {fl fh : Env → T → Option (Option Int × T)} (ha : EV X a fa) (hl : EO X lo fl) (hh : EO X hi fh) : EF X (.Subscript a (.Slice lo hi none p2) pos) (fun e t => match cSl fa fl fh e t with
    | some (.list xs, t') => some (.list xs, t')
    | _ => none) :=
  ⟨pe_weak (pe_slice sl_list ha.pe hl.po hh.po) fun σ H Q h => by
  obtain ⟨g, B, env, t, d, t', r, e, q⟩ := h
  simp only at e
  split at e
  · rename_i xs t9 e9
    cases e
    unfold cSl at e9
    split at e9
    · rename_i d1 t1 e1
      split at e9
      · rename_i l t2 e2
        split at e9
        · rename_i u t3 e3
          split at e9
          · rename_i z ez
            cases e9
            refine ⟨g, B, env, t, d1, t1, r, e1, fun v B1 H1 s1 h1 => ⟨g, B1, env, t1, l, t2, r.step s1, e2, fun B2 H2 s2 => ⟨g, B2, env, t2, u, _, (r.step s1).step s2, e3, fun B3 H3 s3 => ?_⟩⟩⟩
            have s12 := s1.trans r.bs s2
            have s13 := s12.trans r.bs s3
            have hd := (h1.mono s2.b1).mono s3.b1
            unfold dSl at ez
            split at ez
            · cases ez
              cases hd with
              | lst k1 k2 => exact ⟨_, _, rfl, SqL.of (s13.bs.sub _ _ k1), fun p np => s13.bs.lstF (k2.cut l u) np fun p B4 H4 s4 m1 m2 m3 => q p B4 H4 (s13.trans r.bs s4) (s13.freshBack r.bs m1) m2 m3⟩
            · cases ez
            · split at ez <;> cases ez
            · cases ez
          · cases e9
        · cases e9
      · cases e9
    · cases e9
  · cases e⟩

/-! ### slices of lists with a step; x[::-1] -/
def pickL {α : Type} (xs : List α) (lo hi st : Option Int) : List α :=
  (sliceRange (sliceBounds lo hi st xs.length).1 (sliceBounds lo hi st xs.length).2.1 (sliceBounds lo hi st xs.length).2.2).filterMap fun (i : Nat) => xs[i]?
theorem pick_raw (its : List Value) (lo hi st : Option Int) : slicePick its.toArray lo hi st = (pickL its lo hi st).toArray := by
  unfold slicePick pickL
  simp
theorem pick_len {α β : Type} {xs : List α} {ys : List β} (h : xs.length = ys.length) (is : List Nat) : (is.filterMap fun (i : Nat) => xs[i]?).length = (is.filterMap fun (i : Nat) => ys[i]?).length := by
  induction is with
  | nil => rfl
  | cons i is ih =>
    by_cases hi : i < xs.length
    · rw [List.filterMap_cons_some (List.getElem?_eq_getElem hi), List.filterMap_cons_some (List.getElem?_eq_getElem (by omega : i < ys.length)), List.length_cons, List.length_cons, ih]
    · rw [List.filterMap_cons_none (List.getElem?_eq_none (by omega)), List.filterMap_cons_none (List.getElem?_eq_none (by omega)), ih]
theorem vals_pick {xs : List V} {its : List Value} (h : Vals xs its) (is : List Nat) : Vals (is.filterMap fun (i : Nat) => xs[i]?) (is.filterMap fun (i : Nat) => its[i]?) := by
  have hl := h.length
  induction is with
  | nil => exact .nil
  | cons i is ih =>
    by_cases hi : i < xs.length
    · obtain ⟨u, h1, h2⟩ := h.get (List.getElem?_eq_getElem hi)
      rw [List.filterMap_cons_some (List.getElem?_eq_getElem hi), List.filterMap_cons_some h1]
      exact .cons h2 ih
    · rw [List.filterMap_cons_none (List.getElem?_eq_none (by omega)), List.filterMap_cons_none (List.getElem?_eq_none (by omega))]
      exact ih
theorem HdL.picks {K : PySem.W.Frag} {g : G} {B : Hp} {xs : List V} {ds : List D} (h : HdL K g B xs ds) (is : List Nat) : HdL K g B (is.filterMap fun (i : Nat) => xs[i]?) (is.filterMap fun (i : Nat) => ds[i]?) := by
  have hl := h.len
  induction is with
  | nil => exact .nil
  | cons i is ih =>
    by_cases hi : i < ds.length
    · obtain ⟨u, h1, h2⟩ := h.get (List.getElem?_eq_getElem hi)
      rw [List.filterMap_cons_some h1, List.filterMap_cons_some (List.getElem?_eq_getElem hi)]
      exact .cons h2 ih
    · rw [List.filterMap_cons_none (List.getElem?_eq_none (by omega)), List.filterMap_cons_none (List.getElem?_eq_none (by omega))]
      exact ih
theorem HdL.pick {K : PySem.W.Frag} {g : G} {B : Hp} {xs : List V} {ds : List D} (h : HdL K g B xs ds) (lo hi st : Option Int) : HdL K g B (pickL xs lo hi st) (pickL ds lo hi st) := by
  unfold pickL
  rw [h.len]
  exact h.picks _
theorem pickL_le {its : List Value} (lo hi st : Option Int) : (pickL its lo hi st).length ≤ its.length := by
  have := slicePick_size_le its.toArray lo hi st
  rw [pick_raw] at this
  simpa using this
/-- xs[lo:hi:st], xs a list -/
def tSl3 (K : PySem.W.Frag) (te : TE) (tl th ts : TO) : TE := fun σ H Q => te σ H fun x H1 => tl σ H1 fun l H2 => th σ H2 fun u H3 => ts σ H3 fun c H4 => ∃ a xs, x = .ref a ∧ SqL K H4 a xs ∧ c ≠ some 0 ∧ ∀ p, H4 p = none → Q (.ref p) (upd H4 p (.lst (pickL xs l u c)))
theorem pe_slice3 {te : TE} {tl th ts : TO} {lo hi : Option Expr} {st : Expr} (he : PE X e te) (hl : PO X lo tl) (hh : PO X hi th) (hs : PO X (some st) ts) : PE X (.Subscript e (.Slice lo hi (some st) p3) pos) (tSl3 X.K te tl th ts) := by
  refine ⟨fun pins s σ H Q I h => ?_⟩
  refine Subscript_ (thn (he.run pins s σ H _ I h) fun v s1 h1 => ?_)
  obtain ⟨x, H1, I1, r1, q1⟩ := h1
  refine wpAny_Slice (thn (hl.run pins s1 σ H1 _ I1 q1) fun vl s2 h2 => ?_)
  obtain ⟨l, H2, I2, pl, q2⟩ := h2
  refine thn (hh.run pins s2 σ H2 _ I2 q2) fun vu s3 h3 => ?_
  obtain ⟨u, H3, I3, pu, q3⟩ := h3
  refine thn (hs.run pins s3 σ H3 _ I3 q3) fun vs s4 h4 => ?_
  obtain ⟨c, H4, I4, ps, a, xs, rfl, hx, hc, q⟩ := h4
  obtain rfl : v = .ref a := r1
  have I5 : Inv X pins σ H4 { s4 with heap := s4.heap.push { cls := .type "slice", data := .fields #[vl, vu, vs] } } := I4.kept (t' := s4.toks) fun b ob hb => Heap.get?_push_of_some _ hb
  obtain ⟨its, rv, hp, hz⟩ := I5.list hx
  have hlen := rv.length
  show wpAny (model X.prog X.w) X.A (subscriptTail e (.Slice lo hi (some st) p3) (.ref a) (.ref s4.heap.objs.size)) (EP X pins σ Q) X.xe { s4 with heap := s4.heap.push { cls := .type "slice", data := .fields #[vl, vu, vs] } }
  refine tail_any (ops := [.ref a, .ref s4.heap.objs.size]) hp.isList.typeIs PySem.slot_list_getitem.lookup ?_ (by with_unfolding_all rfl)
  refine wpAny_getItem_list_slice hp.isList (Heap.IsSliceOf.new _ vl vu vs) pl pu ps hc ?_ (by rw [List.size_toArray]; omega)
  rw [pick_raw]
  refine ⟨.ref _, _, I5.laid (t' := s4.toks) (o := .lst (pickL xs l u c)) (fun b ob hb => Heap.get?_push_of_some _ hb) (Nat.le_refl _) ?_, rfl, q _ (I5.hok.fresh (Nat.le_refl _))⟩
  have k1 : Vals (pickL xs l u c) (pickL its l u c) := by
    unfold pickL
    rw [hlen]
    exact vals_pick rv _
  exact ⟨by rw [k1.length]; exact Nat.le_trans (pickL_le _ _ _) (by omega), _, 0, k1, Heap.get?_push_size _ rfl⟩
def dPick : D → Option Int → Option Int → Option Int → Option D
  | .list xs, lo, hi, st => if st ≠ some 0 then some (.list (pickL xs lo hi st)) else none
  | _, _, _, _ => none
def cSl3 (f : SE) (lo hi st : Env → T → Option (Option Int × T)) : SE := fun e t => match f e t with
  | some (d, t1) => match lo e t1 with
    | some (l, t2) => match hi e t2 with
      | some (h, t3) => match st e t3 with
        | some (c, t4) => match dPick d l h c with
          | some z => some (z, t4)
          | none => none
        | none => none
      | none => none
    | none => none
  | none => none
theorem ef_slice3 {lo hi : Option Expr} {st : Expr} {fl fh fs : Env → T → Option (Option Int × T)} (ha : EV X a fa) (hl : EO X lo fl) (hh : EO X hi fh) (hs : EO X (some st) fs) : EF X (.Subscript a (.Slice lo hi (some st) p3) pos) (cSl3 fa fl fh fs) :=
  ⟨pe_weak (pe_slice3 ha.pe hl.po hh.po hs.po) fun σ H Q h => by
  obtain ⟨g, B, env, t, d, t', r, e, q⟩ := h
  unfold cSl3 at e
  split at e
  · rename_i d1 t1 e1
    split at e
    · rename_i l t2 e2
      split at e
      · rename_i u t3 e3
        split at e
        · rename_i c t4 e4
          split at e
          · rename_i z ez
            cases e
            refine ⟨g, B, env, t, d1, t1, r, e1, fun v B1 H1 s1 h1 => ⟨g, B1, env, t1, l, t2, r.step s1, e2, fun B2 H2 s2 => ⟨g, B2, env, t2, u, t3, (r.step s1).step s2, e3, fun B3 H3 s3 => ⟨g, B3, env, t3, c, _, ((r.step s1).step s2).step s3, e4, fun B4 H4 s4 => ?_⟩⟩⟩⟩
            have s14 := ((s1.trans r.bs s2).trans r.bs s3).trans r.bs s4
            have hd := ((h1.mono s2.b1).mono s3.b1).mono s4.b1
            unfold dPick at ez
            split at ez
            · split at ez
              · rename_i hc
                cases ez
                cases hd with
                | lst k1 k2 => exact ⟨_, _, rfl, SqL.of (s14.bs.sub _ _ k1), hc, fun p np => s14.bs.lstF (k2.pick l u c) np fun p B5 H5 s5 m1 m2 m3 => q p B5 H5 (s14.trans r.bs s5) (s14.freshBack r.bs m1) m2 m3⟩
              · cases ez
            · cases ez
          · cases e
        · cases e
      · cases e
    · cases e
  · cases e⟩
/-! x[::-1], x a list or a tuple -/
theorem sliceApplied_rev {prog : Program} {w : World} {A : Around} {E : Value → Shared → Prop} {s : Shared} {sl : Addr} {tk : Tok} {n : Nat} {Q : Int × Int × Nat → Shared → Prop} (hs : s.heap.IsSliceOf sl .none .none (.int (-1) tk))
    (h : Q ((n : Int) - 1, -1, n) s) : wpAny (model prog w) A (Builtin.Slice.sliceApplied (.ref sl) (pure (n : Int))) Q E s := by
  obtain ⟨os, hos, hcs, hds⟩ := id hs
  unfold Builtin.Slice.sliceApplied Builtin.Slice.sliceFields
  refine wpAny_bind (wpAny_bind (wpAny_field hos hds (x := .none) rfl (wpAny_bind (wpAny_field hos hds (x := .none) rfl (wpAny_bind (wpAny_field hos hds (x := .int (-1) tk) rfl (wpAny_pure ?_)))))))
  refine wpAny_bind (slicePart_int ?_)
  show wpAny _ _ (if ((-1 : Int) == 0) = true then _ else _) _ _ s
  rw [if_neg (by decide)]
  refine wpAny_bind (slicePart_none (wpAny_bind (slicePart_none (wpAny_bind (wpAny_pure ?_)))))
  have e1 : Builtin.Slice.sliceAdjust none none (-1) (n : Int) = ((n : Int) - 1, -1) := by
    unfold Builtin.Slice.sliceAdjust
    simp
  have e2 : Builtin.Slice.slicePlaces ((n : Int) - 1) (-1) (-1) = n := by
    unfold Builtin.Slice.slicePlaces
    simp
    omega
  show wpAny _ _ (match Builtin.Slice.sliceAdjust none none (-1) (n : Int) with | (lo, hi) => pure (lo, (-1 : Int), Builtin.Slice.slicePlaces lo hi (-1))) _ _ s
  rw [e1]
  show wpAny _ _ (pure ((n : Int) - 1, (-1 : Int), Builtin.Slice.slicePlaces ((n : Int) - 1) (-1) (-1))) _ _ s
  rw [e2]
  exact wpAny_pure h
theorem rev_pick (xs : List Value) : ((List.range xs.length).filterMap fun (m : Nat) => xs.toArray[(((xs.length : Nat) : Int) - 1 + (m : Int) * -1).toNat]?) = xs.reverse := by
  have e : ∀ m, m < xs.length → xs.toArray[(((xs.length : Nat) : Int) - 1 + (m : Int) * -1).toNat]? = some (xs[xs.length - 1 - m]?.getD .none) := fun m hm => by
    have h1 : (((xs.length : Nat) : Int) - 1 + (m : Int) * -1).toNat = xs.length - 1 - m := by omega
    rw [h1, List.getElem?_toArray, List.getElem?_eq_getElem (by omega)]
    rfl
  have e2 : ∀ (l : List Nat), (∀ m ∈ l, m < xs.length) → l.filterMap (fun (m : Nat) => xs.toArray[(((xs.length : Nat) : Int) - 1 + (m : Int) * -1).toNat]?) = l.map fun m => xs[xs.length - 1 - m]?.getD .none := by
    intro l
    induction l with
    | nil => intro _; rfl
    | cons m l ih =>
      intro h
      rw [List.filterMap_cons, e m (h m List.mem_cons_self), List.map_cons, ← ih fun k hk => h k (List.mem_cons_of_mem _ hk)]
  rw [e2 _ fun m hm => List.mem_range.mp hm]
  apply List.ext_getElem?
  intro i
  rw [List.getElem?_map]
  by_cases hi : i < xs.length
  · rw [List.getElem?_range hi, List.getElem?_reverse hi, Option.map_some, List.getElem?_eq_getElem (show xs.length - 1 - i < xs.length by omega)]
    rfl
  · rw [List.getElem?_eq_none (by simpa using hi), List.getElem?_eq_none (by simpa using hi)]
    rfl
theorem getItem_tuple_rev {prog : Program} {w : World} {A : Around} {E : Value → Shared → Prop} {s : Shared} {t sl : Addr} {its : List Value} {tk : Tok} {Q : Value → Shared → Prop} (ht : IsTup s.heap t its.toArray) (hs : s.heap.IsSliceOf sl .none .none (.int (-1) tk))
    (h : Q (.ref s.heap.objs.size) { s with heap := s.heap.push { cls := .type "tuple", data := .seq its.reverse.toArray } }) (hsz : its.length ≤ sizeLine) : wpAny (model prog w) A (getItem (.ref t) (.ref sl)) Q E s := by
  have hnew : sizeOk (.seq its.reverse.toArray) := by
    show its.reverse.toArray.size ≤ sizeLine
    rw [List.size_toArray, List.length_reverse]
    exact hsz
  obtain ⟨os, hos, hcs, hds⟩ := id hs
  have hTs : s.TypeIs (.ref sl) "slice" := ⟨os, hos, hcs⟩
  unfold getItem
  try with_reducible refine wpAny_holding ?_
  first | refine wpAny_bind (wpAny_pure ?_) | skip
  refine wpAny_bind (wpAny_sequenceKey ht.typeIs (by decide) ?_)
  refine wpAny_bind (wpAny_callSpecial?_slot (name := Str.ofString "__getitem__") ht.typeIs PyProof.Rows.slot_tuple_getitem
    (wpAny_call_entry PyProof.Rows.slot_tuple_getitem ht.typeIs entry_tuple_getitem ?_ (args_tuple_getitem _ _)))
  show wpAny _ _ (Builtin.Tuple.tupleItemsOf (.ref t) >>= _) _ _ s
  refine wpAny_bind (tupleItemsOf_ ht ?_)
  refine wpAny_bind (wpAny_typeOf hTs ?_)
  rw [if_pos (by decide)]
  refine wpAny_bind (sliceApplied_rev (n := its.toArray.size) hs ?_)
  have hno : ¬ ((((its.toArray.size : Nat) : Int) - 1 == 0 && (-1 : Int) == 1 && its.toArray.size == its.toArray.size) = true) := by
    intro z
    rw [Bool.and_eq_true, Bool.and_eq_true] at z
    have z2 : (-1 : Int) = 1 := eq_of_beq z.1.2
    omega
  show wpAny _ _ (if (((its.toArray.size : Nat) : Int) - 1 == 0 && (-1 : Int) == 1 && its.toArray.size == its.toArray.size) = true then _ else _) _ _ s
  rw [if_neg hno]
  have e : ((List.range its.toArray.size).filterMap fun (m : Nat) => its.toArray[(((its.toArray.size : Nat) : Int) - 1 + (m : Int) * -1).toNat]?).toArray = its.reverse.toArray := by
    rw [List.size_toArray, rev_pick]
  rw [e]
  first
    | exact wpAny_bind (m := Builtin.Tuple.tupleExact _) (wpAny_newObj_type (wpAny_pure ⟨_, rfl, wpAny_pure h⟩) hnew)
    | exact wpAny_bind (m := Builtin.Tuple.tupleExact _) (wpAny_newObj_type (wpAny_bind (wpAny_pure (wpAny_pure ⟨_, rfl, wpAny_pure h⟩))) hnew)
    | exact wpAny_bind (wpAny_bind (m := Builtin.Tuple.tupleExact _) (wpAny_newObj_type (wpAny_pure (wpAny_pure ⟨_, rfl, wpAny_pure h⟩)) hnew))
    | exact wpAny_bind (wpAny_bind (m := Builtin.Tuple.tupleExact _) (wpAny_newObj_type (wpAny_pure ⟨_, rfl, wpAny_pure h⟩) hnew))
def tRevA (K : PySem.W.Frag) (te : TE) : TE := fun σ H Q => te σ H fun x H1 => ∃ a xs, x = .ref a ∧ ((SqL K H1 a xs ∧ ∀ p, H1 p = none → Q (.ref p) (upd H1 p (.lst xs.reverse))) ∨ (SqT K H1 a xs ∧ NewT H1 xs.reverse Q))
theorem pe_revA {te : TE} {k : Nat} (he : PE X e te) : PE X (.Subscript e (.Slice none none (some (.UnaryOp .USub (.Constant (.int 1) k p1) p2)) p3) pos) (tRevA X.K te) := by
  refine ⟨fun pins s σ H Q I h => ?_⟩
  refine Subscript_ (thn (he.run pins s σ H _ I h) fun v s1 h1 => ?_)
  obtain ⟨x, H1, I1, r1, a, xs, rfl, hq⟩ := h1
  obtain rfl : v = .ref a := r1
  have hst : PO X (some (.UnaryOp .USub (.Constant (.int 1) k p1) p2)) (tPart (tUn (rU fun i => .int (-i)) (tC (.int 1)))) := po_some (pe_un un_neg pe_int)
  have pn : ∀ (s : Shared) (H : Hp), Inv X pins σ H s → ∀ Q : Value → Shared → Prop, (∀ s', Inv X pins σ H s' → Q .none s') → wpAny (model X.prog X.w) X.A (evalPart none X.env) Q X.xe s := fun s H I Q h => by
    rw [evalPart_none]
    exact wpAny_pure (h s I)
  refine wpAny_Slice (pn s1 H1 I1 _ fun s2 I2 => pn s2 H1 I2 _ fun s3 I3 => ?_)
  refine thn (hst.run pins s3 σ H1 (fun o H4 => o = some (-1) ∧ H4 = H1) I3 ⟨1, rfl, -1, rfl, rfl, rfl⟩) fun vs s4 h4 => ?_
  obtain ⟨o, H4, I4, ps, rfl, rfl⟩ := h4
  cases ps with
  | int _ tk =>
    have I5 : Inv X pins σ H4 { s4 with heap := s4.heap.push { cls := .type "slice", data := .fields #[.none, .none, .int (-1) tk] } } := I4.kept (t' := s4.toks) fun b ob hb => Heap.get?_push_of_some _ hb
    show wpAny (model X.prog X.w) X.A (subscriptTail e (.Slice none none (some (.UnaryOp .USub (.Constant (.int 1) k p1) p2)) p3) (.ref a) (.ref s4.heap.objs.size)) (EP X pins σ Q) X.xe { s4 with heap := s4.heap.push { cls := .type "slice", data := .fields #[.none, .none, .int (-1) tk] } }
    rcases hq with ⟨hx, q⟩ | ⟨hx, q⟩
    · obtain ⟨its, rv, hp, hz⟩ := I5.list hx
      have hlen := rv.length
      refine tail_any (ops := [.ref a, .ref s4.heap.objs.size]) hp.isList.typeIs PySem.slot_list_getitem.lookup ?_ (by with_unfolding_all rfl)
      refine wpAny_getItem_list_slice hp.isList (Heap.IsSliceOf.new _ .none .none (.int (-1) tk)) .none .none (.int (-1) tk) (by decide) ?_ (by rw [List.size_toArray]; omega)
      rw [PySem.W.krv_pick]
      refine ⟨.ref _, _, I5.laid (t' := s4.toks) (o := .lst xs.reverse) (fun b ob hb => Heap.get?_push_of_some _ hb) (Nat.le_refl _) ?_, rfl, q _ (I5.hok.fresh (Nat.le_refl _))⟩
      exact ⟨by rw [List.length_reverse]; exact hz, _, 0, rv.reverse, Heap.get?_push_size _ rfl⟩
    · obtain ⟨its, rv, hp, hz⟩ := I5.tuple hx
      have hlen := rv.length
      refine tail_any (ops := [.ref a, .ref s4.heap.objs.size]) hp.typeIs PyProof.Rows.slot_tuple_getitem.lookup ?_ (by with_unfolding_all rfl)
      refine getItem_tuple_rev hp (Heap.IsSliceOf.new _ .none .none (.int (-1) tk)) ?_ (by omega)
      exact ⟨.ref _, _, laidZ (t' := s4.toks) I5 (fun b ob hb => Heap.get?_push_of_some _ hb) (Nat.le_refl _) (Heap.get?_push_size _ rfl) rv.reverse (by rw [List.length_reverse]; exact hz), rfl, q _ _ (I5.hok.fresh (Nat.le_refl _)) ⟨rfl, rfl⟩⟩
def dRev : D → Option D
  | .list xs => some (.list xs.reverse)
  | .tuple xs => some (.tuple xs.reverse)
  | _ => none
def cUn (op : D → Option D) (f : SE) : SE := fun e t => match f e t with
  | some (d, t') => match op d with
    | some z => some (z, t')
    | none => none
  | none => none
theorem ev_rev {k : Nat} (ha : EV X a fa) : EV X (.Subscript a (.Slice none none (some (.UnaryOp .USub (.Constant (.int 1) k p1) p2)) p3) pos) (cUn dRev fa) := ⟨pe_weak (pe_revA ha.pe) fun σ H Q h => by
  obtain ⟨g, B, env, t, d, t', r, e, q⟩ := h
  unfold cUn at e
  split at e
  · rename_i d1 t1 e1
    split at e
    · rename_i z ez
      cases e
      refine ⟨g, B, env, t, d1, _, r, e1, fun v B1 H1 s1 h1 => ?_⟩
      have q' : ∀ v B4 H4, Step g B1 H1 t' B4 H4 → Hd X.K g B4 v d → Q v H4 := fun v B4 H4 s4 h4 => q v B4 H4 (s1.trans r.bs s4) h4
      unfold dRev at ez
      split at ez
      · cases ez
        cases h1 with
        | lst k1 k2 => exact ⟨_, _, rfl, .inl ⟨SqL.of (s1.bs.sub _ _ k1), fun p np => s1.bs.lst k2.rev np q'⟩⟩
      · cases ez
        cases h1 with
        | tup k1 k2 => exact ⟨_, _, rfl, .inr ⟨s1.bs.sub.sqt k1.sq, fun p ob np od => s1.bs.tup k2.rev np od q'⟩⟩
      · cases ez
    · cases e
  · cases e⟩
def dRevL : D → Option D
  | .list xs => some (.list xs.reverse)
  | _ => none
theorem ef_rev {k : Nat} (ha : EV X a fa) : EF X (.Subscript a (.Slice none none (some (.UnaryOp .USub (.Constant (.int 1) k p1) p2)) p3) pos) (cUn dRevL fa) := ⟨pe_weak (pe_revA ha.pe) fun σ H Q h => by
  obtain ⟨g, B, env, t, d, t', r, e, q⟩ := h
  unfold cUn at e
  split at e
  · rename_i d1 t1 e1
    split at e
    · rename_i z ez
      cases e
      refine ⟨g, B, env, t, d1, _, r, e1, fun v B1 H1 s1 h1 => ?_⟩
      unfold dRevL at ez
      split at ez
      · cases ez
        cases h1 with
        | lst k1 k2 => exact ⟨_, _, rfl, .inl ⟨SqL.of (s1.bs.sub _ _ k1), fun p np => s1.bs.lstF k2.rev np fun p B5 H5 s5 m1 m2 m3 => q p B5 H5 (s1.trans r.bs s5) (s1.freshBack r.bs m1) m2 m3⟩⟩
      · cases ez
    · cases e
  · cases e⟩

/-! ### stars in displays -/
def aStar (f : SE) (h : SA) : SA := fun e t => match f e t with
  | some (.list xs, t1) => (match h e t1 with
    | some (ys, t2) => some (xs ++ ys, t2)
    | none => none)
  | some (.tuple xs, t1) => (match h e t1 with
    | some (ys, t2) => some (xs ++ ys, t2)
    | none => none)
  | _ => none
theorem ea_star {es : List Expr} {fs : SA} (ha : EV X a fa) (hr : EA X es fs) (hs : starEach (.Starred a p :: es) X.env = (true, eval a X.env) :: starEach es X.env := by rfl) : EA X (.Starred a p :: es) (aStar fa fs) :=
  ⟨pa_weak (StX.pa_star ha.pe hr.pa hs) fun σ H Q h => by
  obtain ⟨g, B, env, t, ds, t', r, e, q⟩ := h
  unfold aStar at e
  split at e
  · rename_i xs t1 e1
    split at e
    · rename_i ys t2 e2
      cases e
      refine ⟨g, B, env, t, _, _, r, e1, fun v B1 H1 s1 h1 => ?_⟩
      cases h1 with
      | lst k1 k2 => exact ⟨_, _, rfl, .inr (SqL.of (s1.bs.sub _ _ k1)), g, B1, env, t1, ys, _, r.step s1, e2, fun vs B2 H2 s2 h2 => q _ B2 H2 (s1.trans r.bs s2) ((k2.mono s2.b1).app h2)⟩
    · cases e
  · rename_i xs t1 e1
    split at e
    · rename_i ys t2 e2
      cases e
      refine ⟨g, B, env, t, _, _, r, e1, fun v B1 H1 s1 h1 => ?_⟩
      cases h1 with
      | tup k1 k2 => exact ⟨_, _, rfl, .inl (s1.bs.sub.sqt k1.sq), g, B1, env, t1, ys, _, r.step s1, e2, fun vs B2 H2 s2 h2 => q _ B2 H2 (s1.trans r.bs s2) ((k2.mono s2.b1).app h2)⟩
    · cases e
  · cases e⟩
end
end PP

namespace PP
open PySem PySem.Spec PyProof.Rows L2

/-! ### how long splits are -/
theorem spN_len : ∀ d ds, spN d = some ds → ds.length = 1 := fun d ds h => by cases h; rfl
theorem sps0_len : ∀ d ds, spsNil d = some ds → ds.length = 0 := fun d ds h => by unfold spsNil at h; split at h <;> cases h; rfl
theorem sps1_len {sp : SG} {sps : List D → Option (List D)} {n m : Nat} (h1 : ∀ d ds, sp d = some ds → ds.length = n) (h2 : ∀ d ds, sps d = some ds → ds.length = m) : ∀ d ds, spsCons sp sps d = some ds → ds.length = n + m := fun d ds h => by
  unfold spsCons at h
  split at h
  · split at h
    · rename_i e1
      split at h
      · rename_i e2
        cases h
        rw [List.length_append, h1 _ _ e1, h2 _ _ e2]
      · cases h
    · cases h
  · cases h
theorem spT_len {sps : List D → Option (List D)} {n : Nat} (h : ∀ d ds, sps d = some ds → ds.length = n) : ∀ d ds, spT sps d = some ds → ds.length = n := fun d ds e => by
  unfold spT at e
  split at e
  · exact h _ _ e
  · cases e

/-! ### a < b < c as a test -/
def cChain (f1 f2 : D → D → Option D) (a b c : SE) : SE := fun e t => match a e t with
  | some (x, t1) => match b e t1 with
    | some (y, t2) => match f1 x y with
      | some (.bool true) => (match c e t2 with
        | some (z, t3) => (match f2 y z with
          | some r => some (r, t3)
          | none => none)
        | none => none)
      | some (.bool false) => some (.bool false, t2)
      | _ => none
    | none => none
  | none => none
section
variable {X : Cx} {a b c : Expr} {fa fb fc : SE} {pos : Pos}
theorem tchain {r r' : R2} {f1 f2 : D → D → Option D} (h1 : OpD X.K r f1) (h2 : OpD X.K r' f2) {σ : Sg} {H : Hp} {Q : Bool → Hp → Prop} (h : tDT X.K (cTest (cChain f1 f2 fa fb fc)) σ H Q) : tTest (tChain r r' (tD X.K fa) (tD X.K fb) (tD X.K fc)) σ H Q := by
  obtain ⟨g, B, env, t, k, t', rp, e, q⟩ := h
  unfold cTest at e
  split at e
  · rename_i k1 t1 e1
    cases e
    unfold cChain at e1
    split at e1
    · rename_i x t2 ea
      split at e1
      · rename_i y t3 eb
        refine ⟨g, B, env, t, x, t2, rp, ea, fun v B1 H1 s1 hx => ⟨g, B1, env, t2, y, t3, rp.step s1, eb, fun w B2 H2 s2 hy => ?_⟩⟩
        have s12 := s1.trans rp.bs s2
        split at e1
        · rename_i e3
          refine h1 g B2 H2 _ v w x y _ _ s12.bs (hx.mono s2.b1) hy e3 fun u B3 H3 s3 hu => ?_
          cases hu
          refine ⟨true, rfl, ?_⟩
          refine iteT ?_
          have s13 := s12.trans rp.bs s3
          split at e1
          · rename_i z t4 ec
            refine ⟨g, B3, env, t3, z, t4, rp.step s13, ec, fun u B4 H4 s4 hz => ?_⟩
            have s14 := s13.trans rp.bs s4
            split at e1
            · rename_i r5 e5
              cases e1
              refine h2 g B4 H4 _ w u y z _ _ s14.bs ((hy.mono s3.b1).mono s4.b1) hz e5 fun u5 B5 H5 s5 h5 => ?_
              cases h5
              exact ⟨k, rfl, q B5 H5 (s14.trans rp.bs s5)⟩
            · cases e1
          · cases e1
        · rename_i e3
          cases e1
          refine h1 g B2 H2 _ v w x y _ _ s12.bs (hx.mono s2.b1) hy e3 fun u B3 H3 s3 hu => ?_
          cases hu
          refine ⟨false, rfl, ?_⟩
          refine iteF ?_
          exact ⟨false, rfl, q B3 H3 (s12.trans rp.bs s3)⟩
        · cases e1
      · cases e1
    · cases e1
  · cases e
theorem et_chain {op op' : CmpOp} {r r' : R2} {f1 f2 : D → D → Option D} (c1 : EC X op r f1) (c2 : EC X op' r' f2) (ha : EV X a fa) (hb : EV X b fb) (hc : EV X c fc) (h1 : behindInMarks op' c = false := by exact nomark _ (by decide) (by decide)) :
    ET X (.Compare a [op, op'] [b, c] pos) (cTest (cChain f1 f2 fa fb fc)) := ⟨pt_weak (pt_chain c1.op c2.op ha.pe hb.pe hc.pe h1) fun _ _ _ h => tchain c1.sem c2.sem h⟩
end

/-! ### the defs of the text -/
structure DefAt (K : PySem.W.Frag) (mg : Str → Option Value) (x : Str) (st : Stmt) : Prop where
  ex : ∃ f fd, Fun K x x st f fd ∧ mg x = some (.ref f)
theorem defAt_mk {K : PySem.W.Frag} {mg : Str → Option Value} {x : Str} {st : Stmt} {h : Heap} (X : K.In h) (G : h.Ns mainGlobals mg) {f : Addr} {oc : Value} {od an : Option Addr} {osl : Array (Option Value)} {kV doc pm cdv ct : Value}
    (a : PySem.W.nsIn K mainGlobals x = some (some (.ref f))) (l : K.lookup f = some ⟨oc, od, .func (PySem.W.fnOf x x (defArgs st) (defBody st) (defScope st) .none kV doc pm an cdv ct), osl⟩)
    (c : PySem.W.codeIn K cdv x = true) (k : PySem.W.keepIn K (.ref f) = true) : DefAt K mg x st := ⟨f, _, fun_mk l c k, PySem.W.mg_of X G a⟩
section
variable {P : Program} {w : World} {K : PySem.W.Frag} {mg : Str → Option Value} {base : Heap}
theorem fnAt_none {x : Str} {st : Stmt} {f : Addr} {fd : FuncData} {ps : List Str} {k n : Nat} {φ : SF} (F : Fun K x x st f fd) (b : Binds K fd ps []) (hm : mg x = some (.ref f)) (e : φ = fun _ _ => none) : FnAt P w K mg base k x n φ := by
  subst e
  refine ⟨f, fd, ps, ⟨fun vs H Q E h => ?_, fun A outer s H args us vs Q E _ _ _ _ h => ?_⟩, hm, F.kp, b⟩
  · obtain ⟨_, _, _, _, _, _, _, _, _, h, _⟩ := h
    cases h
  · obtain ⟨_, _, _, _, _, _, _, _, _, h, _⟩ := h
    cases h

/-! ### the law -/
def spLaw (K : PySem.W.Frag) : Sp := fun vs H Q _ => ∃ (a : Addr) (ns : List Int), vs = [.ref a] ∧ SqL K H a (ns.map V.int) ∧ ns.length ≤ 63 ∧ ∀ H', Q (.bl true) H'
/-- the law's names once the tape is made -/
def lawE (N i : Nat) : Env := (List.replicate N none).set i (some tapeD)
theorem law_ok {st : Stmt} {f : Addr} {fd : FuncData} {N : List Str} {k i : Nat} {body : SS} {o : List Nat} {rest : List Stmt} {t0 : Str} {pn pl pi p1 p2 p3 p4 p5 : Pos} {k1 k2 : Nat} (F : Fun K "law" "law" st f fd) (S : FnScope N [("script" : Str)] (defScope st))
    (hb : defBody st = .Assign [.Name t0 pn] (.List [.Call (.Name "list" pl) [.Name "script" pi] [] p1, .Constant (.int 0) k1 p2, .Constant (.int 0) k2 p3] p4) p5 :: rest) (hl : mg "list" = none)
    (h0 : 0 < i) (hlen : i < N.length) (hN0 : N[0]? = some ("script" : Str)) (hNi : N[i]? = some t0)
    (hx : ∀ (cdv : Value) (A : Around) (outer : List PySem.Env) (s : Shared) (H : Hp) (E : XK), Vis (cxOf CX0 P w K mg base N "law" (defScope st) f cdv A outer s H E).nox.env.scope "script" ∧ Gl (cxOf CX0 P w K mg base N "law" (defScope st) f cdv A outer s H E).nox "list" ∧
      Loc (cxOf CX0 P w K mg base N "law" (defScope st) f cdv A outer s H E).nox.env.scope t0 ∧ ∀ l, swapsWith (.List [.Call (.Name "list" pl) [.Name "script" pi] [] p1, .Constant (.int 0) k1 p2, .Constant (.int 0) k2 p3] p4) (some (.Name t0 pn)) l (cxOf CX0 P w K mg base N "law" (defScope st) f cdv A outer s H E).nox.env = pure false)
    (hr : ∀ (cdv : Value) (A : Around) (outer : List PySem.Env) (s : Shared) (H : Hp) (E : XK), Room k (A.deeper (envOfC "law" (defScope st) s.heap.objs.size f cdv)) →
      ESs (cxOf CX0 P w K mg base N "law" (defScope st) f cdv A outer s H E).nox (RetV K) [] rest body o)
    (hsem : ∀ ns : List Int, ns.length ≤ 63 → ∃ t', body (lawE N.length i) ⟨ns, 0, 0⟩ = some (.rt (.bool true) t')) :
    FnOk P w K mg base CX0 (k + 1) f fd [("script" : Str)] (spLaw K) := by
  refine F.ok S (fun vs H Q E h => ?_) (fun cdv A outer s H vs Q E hrm h => ?_)
  · obtain ⟨a, ns, rfl, _⟩ := h
    rfl
  · obtain ⟨a, ns, rfl, hS, hlen', q⟩ := h
    obtain ⟨hv, hg, hlo, hsw⟩ := hx cdv A outer s H E
    rw [hb]
    refine ⟨_, pss_cons (ps_set S.nd hNi hlo (pe_lst (pa_cons (pe_callTy call_listA hg hl (by decide +kernel) (pa_cons (pe_var hN0 hv) pa_nil)) (pa_cons pe_int (pa_cons pe_int pa_nil)))) (hsw _) (.inl rfl)) (hr cdv A outer s H E hrm).pss, ?_⟩
    have s0 : (L2.start N [V.ref a])[0]? = some (some (V.ref a)) := rfl
    refine ⟨_, s0, a, _, rfl, .inl hS, fun l nl => ⟨by show 3 ≤ sizeLine; decide, fun p np => ?_⟩⟩
    obtain ⟨t', e⟩ := hsem ns hlen'
    have lp : l ≠ p := fun z => by rw [← z, upd_same] at np; cases np
    have hlenσ : (L2.start N [V.ref a]).length = N.length := by
      show ([some (V.ref a)] ++ List.replicate (N.length - 1) none).length = N.length
      rw [List.length_append, List.length_replicate]
      show 1 + (N.length - 1) = N.length
      omega
    refine ⟨⟨p, l⟩, ⟨upd (upd H l (.lst (ns.map V.int))) p (.lst [.ref l, .int 0, .int 0]), fun b => if b = l then some (.lst (ns.map V.int)) else none⟩, fun b => if b = l then some (.lst (ns.map V.int)) else none, lawE N.length i, ⟨ns, 0, 0⟩, _, ?_, e, fun v B1 H1 r => ?_⟩
    · refine ⟨⟨fun b x h => ?_, upd_same, if_neg (Ne.symm lp), if_pos rfl⟩, ?_, fun j d _ ej => ?_, fun j d hj => absurd hj (by simp), fun j k p d e hj => absurd hj (by simp), fun _ _ _ h => h, .refl _, fun _ _ h => h, (fun z => by have z2 := upd_same.symm.trans z; cases z2), if_neg (Ne.symm lp)⟩
      · have h : (if b = l then some (HO.lst (ns.map V.int)) else none) = some x := h
        split at h
        · rename_i hbl
          cases h
          rw [hbl, upd_ne lp, upd_same]
        · cases h
      · unfold lawE
        rw [List.length_set, List.length_set, List.length_replicate, hlenσ]
      · unfold lawE at ej
        by_cases hij : i = j
        · subst hij
          rw [List.getElem?_set_self (by rw [List.length_replicate]; exact hlen)] at ej
          cases ej
          exact ⟨.ref p, List.getElem?_set_self (by rw [hlenσ]; exact hlen), .tape⟩
        · rw [List.getElem?_set_ne hij, List.getElem?_replicate] at ej
          split at ej <;> cases ej
    · obtain ⟨_, r⟩ := r
      cases r
      exact q H1
end
end PP

namespace PP
open PySem PySem.Spec PyProof.Rows L2

/-! ### comprehensions over two walks -/
def compL2 (is : List Nat) (sp : SG) (test : ST) (src1 : SA) (vs1 is1 : List Nat) (sp1 : SG) (test1 : ST) (elt : SE) : List D → Env → T → Option (List D × T)
  | [], _, t => some ([], t)
  | x :: xs, e, t => match sp x with
    | none => none
    | some ds => match test (setsE e is ds) t with
      | none => none
      | some (false, t1) => compL2 is sp test src1 vs1 is1 sp1 test1 elt xs e t1
      | some (true, t1) => match src1 (setsE e is ds) t1 with
        | none => none
        | some (ds1, t2) => match compL is1 sp1 test1 elt ds1 (hide vs1 (setsE e is ds)) t2 with
          | none => none
          | some (ys, t3) => match compL2 is sp test src1 vs1 is1 sp1 test1 elt xs e t3 with
            | none => none
            | some (zs, t4) => some (ys ++ zs, t4)
def cComp2 (src : SA) (vs is : List Nat) (sp : SG) (test : ST) (src1 : SA) (vs1 is1 : List Nat) (sp1 : SG) (test1 : ST) (elt : SE) : SE := fun e t => match src e t with
  | some (ds, t1) => match compL2 is sp test src1 vs1 is1 sp1 test1 elt ds (hide vs e) t1 with
    | some (ys, t2) => if ys.length ≤ LIM then some (.list ys, t2) else none
    | none => none
  | none => none
theorem Rep.sub {K : PySem.W.Frag} {g : G} {B B' H H' : Hp} {t t' : T} {σ : Sg} {env : Env} (r : Rep K g B H σ env t) (bs : Base g B' H' t') (s : Sub B B') : Rep K g B' H' σ env t' :=
  ⟨bs, r.len, fun i d e => by
    obtain ⟨v, k1, k2⟩ := r.vars i d e
    exact ⟨v, k1, k2.mono s⟩⟩
section
variable {X : Cx} {elt tg iter tg1 iter1 : Expr} {ifs ifs1 : List Expr} {scope : Scope} {own : List (Str × Nat)} {vs1 : List Nat} {pos : Pos} {src src1 : SA} {is is1 : List Nat} {sp sp1 : SG} {ft ft1 : ST} {fe : SE} {wk wk1 : Bool}
theorem tlc2 (hs : ∀ i ∈ is, i ∈ own.map (·.2)) (hs1 : ∀ i ∈ is1, i ∈ vs1) (hl : ∀ d ds, sp d = some ds → ds.length = is.length) (hl1 : ∀ d ds, sp1 d = some ds → ds.length = is1.length) {σ : Sg} {H : Hp} {Q : VK} (h : tF X.K (cComp2 src (own.map (·.2)) is sp ft src1 vs1 is1 sp1 ft1 fe) σ H Q) :
    tLc2 (tI X.K src wk) (tGt X.K is sp wk) (tDT X.K ft) (tI X.K src1 wk1) (tGt X.K is1 sp1 wk1) (tDT X.K ft1) (tD X.K fe) (own.map (·.2)) vs1 σ H Q := by
  obtain ⟨g, B, env, t, d, t', r, e, q⟩ := h
  unfold cComp2 at e
  split at e
  · rename_i ds t1 es
    split at e
    · rename_i ys t2 ec
      split at e
      · rename_i hlim
        cases e
        refine ⟨g, B, env, t, ds, t1, r, es, fun B1 H1 J s1 wks Dd hD => ?_⟩
        have hHD : H Dd = none := by
          cases z : H Dd with
          | none => rfl
          | some x => exact absurd hD (s1.live r.bs (by rw [z]; exact fun z => nomatch z))
        have bD : B1 Dd = none := by
          cases z : B1 Dd with
          | none => rfl
          | some x => rw [s1.bs.sub Dd x z] at hD; cases hD
        have ndt : ∀ (H2 : Hp) (B2 : Hp) (t2 : T) (acc : List V), Base g B2 H2 t2 → H2 Dd = some (.lst acc) → Dd ≠ g.ta := fun H2 B2 t2 acc b h2 z => by
          rw [z, b.tp] at h2; injection h2 with h2; rw [z, s1.bs.tp] at hD; cases hD
        refine ⟨fun i m H2 => m = ds.length - i ∧ ∃ B2 t2 acc accd zs, Step g B1 H1 t2 B2 H2 ∧ B2 Dd = none ∧ H2 Dd = some (.lst acc) ∧ HdL X.K g B2 acc accd ∧ compL2 is sp ft src1 vs1 is1 sp1 ft1 fe (ds.drop i) (hide (own.map (·.2)) env) t2 = some (zs, t') ∧ ys = accd ++ zs,
          ⟨ds.length, by simp, B1, t1, [], [], ys, Step.mut s1.bs (.refl s1.bs) hD bD, bD, upd_same, .nil, ec, rfl⟩, ?_⟩
        rintro i m H2 ⟨rfl, B2, t2, acc, accd, zs, s2, b2, h2, hd, ec2, rfl⟩
        by_cases hi : i < ds.length
        · refine .inr ?_
          have ed : ds.drop i = ds[i] :: ds.drop (i + 1) := by rw [List.drop_eq_getElem_cons hi]
          rw [ed] at ec2
          have eg : ds[i]? = some ds[i] := List.getElem?_eq_getElem hi
          obtain ⟨w1, w2⟩ := wks.go i _ B2 H2 t2 s2.b1 s2.bs eg
          refine ⟨w1, fun H' => ∃ B2 t2 acc accd' zs', Step g B1 H1 t2 B2 H' ∧ B2 Dd = none ∧ H' Dd = some (.lst acc) ∧ HdL X.K g B2 acc accd' ∧ compL2 is sp ft src1 vs1 is1 sp1 ft1 fe (ds.drop (i + 1)) (hide (own.map (·.2)) env) t2 = some (zs', t') ∧ accd ++ zs = accd' ++ zs', fun H' h => ⟨ds.length - (i + 1), by omega, rfl, h⟩, fun x H' y => ?_⟩
          obtain ⟨B3, s3, h3⟩ := w2 x H' y
          have hD3 : H2 Dd ≠ none := by rw [h2]; exact fun z => nomatch z
          have nta : Dd ≠ g.ta := ndt _ _ _ _ s2.bs h2
          have b3 : B3 Dd = none := s3.b3 Dd hD3 b2
          have k3 : H' Dd = some (.lst acc) := s3.h1 _ _ nta h2
          unfold compL2 at ec2
          split at ec2
          · cases ec2
          · rename_i es2 esp
            have s13 := s2.trans s1.bs s3
            refine ⟨g, B3, _, es2, s13.bs.sub, h3, esp, fun vs hv => ⟨wipe_sets hs, ?_⟩⟩
            have r3 : Rep X.K g B3 H' (setsV (wipe σ (own.map (·.2))) is vs) (setsE (hide (own.map (·.2)) env) is es2) t2 :=
              Rep.sets _ _ _ _ _ (((r.step s1).step s13).wipe _) hv (hl _ _ esp)
            split at ec2
            · cases ec2
            · rename_i t4 et
              refine ⟨g, B3, _, t2, false, t4, r3, et, fun B4 H4 s4 => ?_⟩
              show (if false = true then _ else _)
              refine iteF ?_
              exact ⟨B4, t4, acc, accd, zs, s13.trans s1.bs s4, s4.b3 _ (by rw [k3]; exact fun z => nomatch z) b3, s4.h1 _ _ nta k3, (hd.mono s3.b1).mono s4.b1, ec2, rfl⟩
            · rename_i t4 et
              refine ⟨g, B3, _, t2, true, t4, r3, et, fun B4 H4 s4 => ?_⟩
              show (if true = true then _ else _)
              refine iteT ?_
              have b4 : B4 Dd = none := s4.b3 _ (by rw [k3]; exact fun z => nomatch z) b3
              have k4 : H4 Dd = some (.lst acc) := s4.h1 _ _ nta k3
              split at ec2
              · cases ec2
              · rename_i ds1 t5 es1
                split at ec2
                · cases ec2
                · rename_i ys1 t6 ec3
                  split at ec2
                  · cases ec2
                  · rename_i zs1 t7 ec4
                    cases ec2
                    refine ⟨g, B4, _, t4, ds1, t5, r3.step s4, es1, fun B5 H5 J1 s5 wks1 => ?_⟩
                    have b5 : B5 Dd = none := s5.b3 _ (by rw [k4]; exact fun z => nomatch z) b4
                    have k5 : H5 Dd = some (.lst acc) := s5.h1 _ _ nta k4
                    have s15 := (s13.trans s1.bs s4).trans s1.bs s5
                    have r5 := (r3.step s4).step s5
                    refine ⟨fun j m H2 => m = ds1.length - j ∧ ∃ B2 t2 acc accd' zs', Step g B1 H1 t2 B2 H2 ∧ Sub B5 B2 ∧ B2 Dd = none ∧ H2 Dd = some (.lst acc) ∧ HdL X.K g B2 acc accd' ∧ compL is1 sp1 ft1 fe (ds1.drop j) (hide vs1 (setsE (hide (own.map (·.2)) env) is es2)) t2 = some (zs', t6) ∧ accd ++ ys1 = accd' ++ zs',
                      ⟨ds1.length, by simp, B5, t5, acc, accd, ys1, s15, .refl _, b5, k5, ((hd.mono s3.b1).mono s4.b1).mono s5.b1, ec3, rfl⟩, ?_⟩
                    rintro j m H6 ⟨rfl, B6, t8, acc6, accd6, zs6, s6, sb6, b6, h6, hd6, ec6, eq6⟩
                    by_cases hj : j < ds1.length
                    · refine .inr ?_
                      have ed1 : ds1.drop j = ds1[j] :: ds1.drop (j + 1) := by rw [List.drop_eq_getElem_cons hj]
                      rw [ed1] at ec6
                      have eg1 : ds1[j]? = some ds1[j] := List.getElem?_eq_getElem hj
                      obtain ⟨w3, w4⟩ := wks1.go j _ B6 H6 t8 sb6 s6.bs eg1
                      refine ⟨w3, fun H' => ∃ B2 t2 acc accd' zs', Step g B1 H1 t2 B2 H' ∧ Sub B5 B2 ∧ B2 Dd = none ∧ H' Dd = some (.lst acc) ∧ HdL X.K g B2 acc accd' ∧ compL is1 sp1 ft1 fe (ds1.drop (j + 1)) (hide vs1 (setsE (hide (own.map (·.2)) env) is es2)) t2 = some (zs', t6) ∧ accd ++ ys1 = accd' ++ zs', fun H' h => ⟨ds1.length - (j + 1), by omega, rfl, h⟩, fun x H' y => ?_⟩
                      obtain ⟨B7, s7, h7⟩ := w4 x H' y
                      have hD7 : H6 Dd ≠ none := by rw [h6]; exact fun z => nomatch z
                      have b7 : B7 Dd = none := s7.b3 Dd hD7 b6
                      have k7 : H' Dd = some (.lst acc6) := s7.h1 _ _ nta h6
                      unfold compL at ec6
                      split at ec6
                      · cases ec6
                      · rename_i es7 esp7
                        have s17 := s6.trans s1.bs s7
                        refine ⟨g, B7, _, es7, s17.bs.sub, h7, esp7, fun vs7 hv7 => ⟨wipe_sets hs1, ?_⟩⟩
                        have r7 := Rep.sets _ _ _ _ _ ((r5.sub s17.bs (sb6.trans s7.b1)).wipe vs1) hv7 (hl1 _ _ esp7)
                        split at ec6
                        · cases ec6
                        · rename_i t9 et9
                          refine ⟨g, B7, _, t8, false, t9, r7, et9, fun B8 H8 s8 => ?_⟩
                          show (if false = true then _ else _)
                          refine iteF ?_
                          exact ⟨B8, t9, acc6, accd6, zs6, s17.trans s1.bs s8, (sb6.trans s7.b1).trans s8.b1, s8.b3 _ (by rw [k7]; exact fun z => nomatch z) b7, s8.h1 _ _ nta k7, (hd6.mono s7.b1).mono s8.b1, ec6, eq6⟩
                        · rename_i t9 et9
                          refine ⟨g, B7, _, t8, true, t9, r7, et9, fun B8 H8 s8 => ?_⟩
                          show (if true = true then _ else _)
                          refine iteT ?_
                          have b8 : B8 Dd = none := s8.b3 _ (by rw [k7]; exact fun z => nomatch z) b7
                          have k8 : H8 Dd = some (.lst acc6) := s8.h1 _ _ nta k7
                          split at ec6
                          · cases ec6
                          · rename_i y9 t10 ey
                            split at ec6
                            · cases ec6
                            · rename_i ws t11 ec9
                              cases ec6
                              refine ⟨g, B8, _, t9, y9, t10, r7.step s8, ey, fun yv B9 H9 s9 h9 => ?_⟩
                              have b9 : B9 Dd = none := s9.b3 _ (by rw [k8]; exact fun z => nomatch z) b8
                              have k9 : H9 Dd = some (.lst acc6) := s9.h1 _ _ nta k8
                              have hac := hd6.len
                              have hlen : accd6.length + (ws.length + 1) ≤ LIM := by
                                have h1 := hlim
                                rw [List.length_append, List.length_append] at h1
                                have h2 := congrArg List.length eq6
                                rw [List.length_append, List.length_append, List.length_cons] at h2
                                omega
                              refine ⟨acc6, k9, lim_lt (by omega), ?_⟩
                              refine ⟨B9, t10, acc6 ++ [yv], accd6 ++ [y9], ws, Step.mut s1.bs ((s17.trans s1.bs s8).trans s1.bs s9) hD b9, ((sb6.trans s7.b1).trans s8.b1).trans s9.b1, b9, upd_same, (((hd6.mono s7.b1).mono s8.b1).mono s9.b1).app (.cons h9 .nil), ec9, by rw [eq6]; simp⟩
                    · refine .inl ⟨wks1.stop j B6 H6 t8 sb6 s6.bs (by omega), ?_⟩
                      rw [List.drop_eq_nil_of_le (by omega)] at ec6
                      cases ec6
                      rw [List.append_nil] at eq6
                      exact ⟨B6, _, acc6, accd6, zs1, s6, b6, h6, hd6, ec4, by rw [← eq6]; simp⟩
        · refine .inl ⟨wks.stop i B2 H2 t2 s2.b1 s2.bs (by omega), ?_⟩
          rw [List.drop_eq_nil_of_le (by omega)] at ec2
          cases ec2
          rw [List.append_nil] at q
          exact q Dd B2 H2 (s1.trans r.bs s2) hHD b2 (.lst h2 hd)
      · cases e
    · cases e
  · cases e
theorem ef_comp2 (hi : EI X tg iter src wk) (ok : BlkOk X.N X.env.scope scope own) (hv : ∀ i ∈ vs1, i ∈ own.map (·.2))
    (hg : ∀ (s : Shared) (H : Hp) (C : Addr) (cl : List (Str × Addr)) (fp : List Addr), EG (X.blk s H scope (compEnvC scope cl C X.env) fp) tg is sp wk) (ht : ∀ (s : Shared) (H : Hp) (C : Addr) (cl : List (Str × Addr)) (fp : List Addr), ETs (X.blk s H scope (compEnvC scope cl C X.env) fp) ifs ft)
    (hi1 : ∀ (s : Shared) (H : Hp) (C : Addr) (cl : List (Str × Addr)) (fp : List Addr), EI (X.blk s H scope (compEnvC scope cl C X.env) fp) tg1 iter1 src1 wk1)
    (hg1 : ∀ (s : Shared) (H : Hp) (C : Addr) (cl : List (Str × Addr)) (fp : List Addr), EG (X.blk s H scope (compEnvC scope cl C X.env) fp) tg1 is1 sp1 wk1) (ht1 : ∀ (s : Shared) (H : Hp) (C : Addr) (cl : List (Str × Addr)) (fp : List Addr), ETs (X.blk s H scope (compEnvC scope cl C X.env) fp) ifs1 ft1)
    (he : ∀ (s : Shared) (H : Hp) (C : Addr) (cl : List (Str × Addr)) (fp : List Addr), EV (X.blk s H scope (compEnvC scope cl C X.env) fp) elt fe) (hc : X.calm = true) (hN : X.N.Nodup) (hl : ∀ d ds, sp d = some ds → ds.length = is.length) (hl1 : ∀ d ds, sp1 d = some ds → ds.length = is1.length)
    (hs : ∀ i ∈ is, i ∈ own.map (·.2) := by decide) (hs1 : ∀ i ∈ is1, i ∈ vs1 := by decide) (hf : ∀ x, foldedSetIterable iter X.env x = pure x := by intro _; rfl) (hf1 : ∀ env x, foldedSetIterable iter1 env x = pure x := by intro _ _; rfl) :
    EF X (.ListComp elt [⟨tg, iter, ifs, 0⟩, ⟨tg1, iter1, ifs1, 0⟩] scope pos) (cComp2 src (own.map (·.2)) is sp ft src1 vs1 is1 sp1 ft1 fe) :=
  ⟨pe_weak (pe_lc2 hc hN hi.pi ok hv (fun s H C cl fp => (hg s H C cl fp).pg) (fun s H C cl fp => (ht s H C cl fp).pts) (fun s H C cl fp => (hi1 s H C cl fp).pi) (fun s H C cl fp => (hg1 s H C cl fp).pg) (fun s H C cl fp => (ht1 s H C cl fp).pts) (fun s H C cl fp => (he s H C cl fp).pe) hf hf1) fun σ H Q h => tlc2 hs hs1 hl hl1 h⟩
variable {R : RT} {o : List Nat}
theorem es_setLc2 {i : Nat} {y : Str} {py spos : Pos} (hi : EI X tg iter src wk) (ok : BlkOk X.N X.env.scope scope own) (hv : ∀ i ∈ vs1, i ∈ own.map (·.2))
    (hg : ∀ (s : Shared) (H : Hp) (C : Addr) (cl : List (Str × Addr)) (fp : List Addr), EG (X.blk s H scope (compEnvC scope cl C X.env) fp) tg is sp wk) (ht : ∀ (s : Shared) (H : Hp) (C : Addr) (cl : List (Str × Addr)) (fp : List Addr), ETs (X.blk s H scope (compEnvC scope cl C X.env) fp) ifs ft)
    (hi1 : ∀ (s : Shared) (H : Hp) (C : Addr) (cl : List (Str × Addr)) (fp : List Addr), EI (X.blk s H scope (compEnvC scope cl C X.env) fp) tg1 iter1 src1 wk1)
    (hg1 : ∀ (s : Shared) (H : Hp) (C : Addr) (cl : List (Str × Addr)) (fp : List Addr), EG (X.blk s H scope (compEnvC scope cl C X.env) fp) tg1 is1 sp1 wk1) (ht1 : ∀ (s : Shared) (H : Hp) (C : Addr) (cl : List (Str × Addr)) (fp : List Addr), ETs (X.blk s H scope (compEnvC scope cl C X.env) fp) ifs1 ft1)
    (he : ∀ (s : Shared) (H : Hp) (C : Addr) (cl : List (Str × Addr)) (fp : List Addr), EV (X.blk s H scope (compEnvC scope cl C X.env) fp) elt fe) (hc : X.calm = true) (hN : X.N.Nodup) (hl : ∀ d ds, sp d = some ds → ds.length = is.length) (hl1 : ∀ d ds, sp1 d = some ds → ds.length = is1.length)
    (hsw : swapsWith (.ListComp elt [⟨tg, iter, ifs, 0⟩, ⟨tg1, iter1, ifs1, 0⟩] scope pos) (some (.Name y py)) spos.line X.env = pure true)
    (hs : ∀ i ∈ is, i ∈ own.map (·.2) := by decide) (hs1 : ∀ i ∈ is1, i ∈ vs1 := by decide) (hy : X.N[i]? = some y := by rfl) (hyl : X.env.scope.names.lookup y = some .local := by rfl) (hf : ∀ x, foldedSetIterable iter X.env x = pure x := by intro _; rfl) (hf1 : ∀ env x, foldedSetIterable iter1 env x = pure x := by intro _ _; rfl) :
    ES X R o (.Assign [.Name y py] (.ListComp elt [⟨tg, iter, ifs, 0⟩, ⟨tg1, iter1, ifs1, 0⟩] scope pos) spos) (sSet i (useV o (cComp2 src (own.map (·.2)) is sp ft src1 vs1 is1 sp1 ft1 fe))) (o.filter (· ≠ i)) :=
  ⟨ps_weak (ps_setLc2 hc hN hy hyl hsw hi.pi ok hv (fun s H C cl fp => (hg s H C cl fp).pg) (fun s H C cl fp => (ht s H C cl fp).pts) (fun s H C cl fp => (hi1 s H C cl fp).pi) (fun s H C cl fp => (hg1 s H C cl fp).pg) (fun s H C cl fp => (ht1 s H C cl fp).pts) (fun s H C cl fp => (he s H C cl fp).pe) hf hf1) fun E σ H h => by
  refine tlc2 (ft := ft) (fe := fe) (src1 := src1) (ft1 := ft1) (wk := wk) (wk1 := wk1) hs hs1 hl hl1 (tF_ofD (tD_of (o := o) ?_))
  obtain ⟨g, fg, B, env, t, r, rp, e, q⟩ := h
  unfold sSet at e
  split at e
  · rename_i d t' ef
    cases e
    exact ⟨g, fg, B, env, t, d, t', rp, ef, fun v B' H' r1 _ h1 => q _ B' H' (r1.set h1)⟩
  · cases e⟩
end
end PP

namespace PP
open PySem PySem.Spec PyProof.Rows L2

/-! ### dicts of one's own, keys numbers or texts -/
inductive DK (K : PySem.W.Frag) (g : G) (B : Hp) : List (Key × V) → List (D × D) → Prop
  | nil : DK K g B [] []
  | cons {k : Key} {v : V} {d : D} {kvs : List (Key × V)} {ps : List (D × D)} : Hd K g B v d → DK K g B kvs ps → DK K g B ((k, v) :: kvs) ((kD k, d) :: ps)
def isKy : Key → D → Bool
  | .inl i, .int j => decide (j = i)
  | .inr x, .str y => decide (y = x)
  | _, _ => false
def keyOf : D → Option Key
  | .int i => some (.inl i)
  | .str x => some (.inr x)
  | _ => none
def getD (ps : List (D × D)) (k : Key) : Option D := (ps.find? fun p => isKy k p.1).map (·.2)
def putD (ps : List (D × D)) (k : Key) (d : D) : List (D × D) := if (ps.any fun p => isKy k p.1) = true then ps.map (fun p => if isKy k p.1 = true then (p.1, d) else p) else ps ++ [(kD k, d)]
/-- not a dict with nested keys -/
def nmk : List (D × D) → Bool
  | (.dict _, _) :: _ => false
  | _ => true
section
variable {K : PySem.W.Frag} {g : G} {B H : Hp}
theorem isKy_kD {k j : Key} : isKy k (kD j) = decide (j = k) := by
  cases k <;> cases j <;> simp [isKy, kD]
theorem DK.of : ∀ {kvs : List (Key × V)} {ds : List D}, HdL K g B (kvs.map (·.2)) ds → DK K g B kvs (zipK (kvs.map (·.1)) ds)
  | [], _, h => by cases h; exact .nil
  | (k, v) :: kvs, d :: ds, h => by
    cases h with
    | cons h1 h2 => exact .cons h1 (DK.of h2)
theorem DK.to {kvs : List (Key × V)} {ps : List (D × D)} (h : DK K g B kvs ps) : ∃ ds, HdL K g B (kvs.map (·.2)) ds ∧ ps = zipK (kvs.map (·.1)) ds := by
  induction h with
  | nil => exact ⟨[], .nil, rfl⟩
  | @cons k v d kvs ps h _ ih =>
    obtain ⟨ds, h1, h2⟩ := ih
    exact ⟨d :: ds, .cons h h1, by rw [h2]; rfl⟩
theorem DK.len {kvs : List (Key × V)} {ps : List (D × D)} (h : DK K g B kvs ps) : kvs.length = ps.length := by
  induction h with
  | nil => rfl
  | cons _ _ ih => simp [ih]
theorem DK.mono {B' : Hp} {kvs : List (Key × V)} {ps : List (D × D)} (h : DK K g B kvs ps) (s : Sub B B') : DK K g B' kvs ps := by
  induction h with
  | nil => exact .nil
  | cons h _ ih => exact .cons (h.mono s) ih
theorem DK.get {kvs : List (Key × V)} {ps : List (D × D)} (h : DK K g B kvs ps) (k : Key) : (valV kvs k = none ∧ getD ps k = none) ∨ ∃ v d, valV kvs k = some v ∧ getD ps k = some d ∧ Hd K g B v d := by
  induction h with
  | nil => exact .inl ⟨rfl, rfl⟩
  | @cons j v d kvs ps h hr ih =>
    by_cases e : j = k
    · exact .inr ⟨v, d, valV_pos e, by simp [getD, isKy_kD, e], h⟩
    · rw [valV_neg (p := (j, v)) e]
      have e2 : getD ((kD j, d) :: ps) k = getD ps k := by simp [getD, isKy_kD, e]
      rw [e2]
      exact ih
theorem DK.any {kvs : List (Key × V)} {ps : List (D × D)} (h : DK K g B kvs ps) (k : Key) : (kvs.any fun kv => decide (kv.1 = k)) = ps.any fun p => isKy k p.1 := by
  induction h with
  | nil => rfl
  | cons _ _ ih => rw [List.any_cons, List.any_cons, isKy_kD, ih]
theorem DK.app {k : Key} {v : V} {d : D} {kvs : List (Key × V)} {ps : List (D × D)} (h : DK K g B kvs ps) (hv : Hd K g B v d) : DK K g B (kvs ++ [(k, v)]) (ps ++ [(kD k, d)]) := by
  induction h with
  | nil => exact .cons hv .nil
  | cons h _ ih => exact .cons h ih
theorem DK.upd {k : Key} {v : V} {d : D} {kvs : List (Key × V)} {ps : List (D × D)} (h : DK K g B kvs ps) (hv : Hd K g B v d) : DK K g B (kvs.map fun kv => if kv.1 = k then (kv.1, v) else kv) (ps.map fun p => if isKy k p.1 = true then (p.1, d) else p) := by
  induction h with
  | nil => exact .nil
  | @cons j u c kvs ps h _ ih =>
    rw [List.map_cons, List.map_cons, isKy_kD]
    by_cases e : j = k
    · simp only [e, if_true, decide_true]
      exact .cons hv ih
    · simp only [e, if_false, decide_false, Bool.false_eq_true]
      exact .cons h ih
theorem DK.put {k : Key} {v : V} {d : D} {kvs : List (Key × V)} {ps : List (D × D)} (h : DK K g B kvs ps) (hv : Hd K g B v d) : DK K g B (putK kvs k v) (putD ps k d) := by
  unfold putK putD
  rw [h.any k]
  split
  · exact h.upd hv
  · exact h.app hv
theorem OwnAt.dict {p : Addr} {ps : List (D × D)} (h : OwnAt K g B H p (.dict ps)) (nm : nmk ps = true) : ∃ kvs, H p = some (.dK kvs) ∧ DK K g B kvs ps := by
  generalize e : (PyData.dict ps : D) = d at h
  cases h with
  | lst h k => cases e
  | dct h k => cases e; exact ⟨_, h, .of k⟩
  | dx _ _ _ _ _ => cases e; cases nm
theorem OwnAt.ofDK {p : Addr} {kvs : List (Key × V)} {ps : List (D × D)} (e : H p = some (.dK kvs)) (h : DK K g B kvs ps) : OwnAt K g B H p (.dict ps) := by
  obtain ⟨ds, h1, rfl⟩ := h.to
  exact .dct e h1
theorem Hd.key {v : V} {d : D} {k : Key} (h : Hd K g B v d) (e : keyOf d = some k) : v = kV k := by
  cases h <;> cases e <;> rfl
end
def cDIn (neg : Bool) (f : SE) (i : Nat) : SE := fun e t => match f e t with
  | some (x, t') => match keyOf x with
    | some k => match e[i]? with
      | some (some (.dict ps)) => if nmk ps = true then some (.bool (if neg then !(getD ps k).isSome else (getD ps k).isSome), t') else none
      | _ => none
    | none => none
  | none => none
def sDPutE (i : Nat) (f fk : SE) : SS := fun e t => match f e t with
  | some (d, t1) => match fk e t1 with
    | some (x, t2) => match keyOf x with
      | some k => match e[i]? with
        | some (some (.dict ps)) => if ps.length < LIM ∧ nmk ps = true then some (.nx (e.set i (some (.dict (putD ps k d)))) t2) else none
        | _ => none
      | none => none
    | none => none
  | none => none
def sParD (i j : Nat) (f : SE) : SS := fun e t => match f e t with
  | some (d, t') => some (.nx ((e.set i (some d)).set j (some (.dict []))) t')
  | none => none
section
variable {X : Cx} {R : RT} {o : List Nat} {x : Str} {a e : Expr} {f fk : SE} {p p2 pos : Pos} {neg : Bool}
theorem tB_notin {i : Nat} {σ : Sg} {H : Hp} {Q : Bool → Hp → Prop} (ho : i ∈ o) (h : tDTS X.K o (cTest (cDIn true f i)) σ H Q) :
    tDS X.K o f σ H fun y H1 => tVar i σ H1 fun x H2 => ∃ a ov, x = .ref a ∧ DGet H2 a y ov ∧ ∃ c, V.bl (!ov.isSome) = .bl c ∧ Q c H2 := by
  obtain ⟨g, fg, B, env, t, c, t', r, e, q⟩ := h
  unfold cTest cDIn at e
  split at e
  · rename_i b t1 e1
    cases e
    split at e1
    · rename_i d t2 ef
      split at e1
      · rename_i k ek
        split at e1
        · rename_i ps ei
          split at e1
          rotate_left
          · cases e1
          rename_i nm
          cases e1
          refine ⟨g, fg, B, env, t, d, _, r, ef, fun v B1 H1 r1 sb hv => ?_⟩
          obtain ⟨q1, s1, k1, k2, k3, k4⟩ := r1.own i _ ho ei
          obtain ⟨kvs, h1, h2⟩ := k4.dict nm
          refine ⟨_, s1, q1, valV kvs k, rfl, by rw [hv.key ek]; exact .k h1, ?_⟩
          have e3 : (valV kvs k).isSome = (getD ps k).isSome := by
            rcases h2.get k with ⟨z1, z2⟩ | ⟨v, d, z1, z2, _⟩ <;> rw [z1, z2] <;> rfl
          refine ⟨_, rfl, ?_⟩
          rw [e3]
          exact q B1 H1 r1
        · cases e1
      · cases e1
    · cases e1
  · cases e
theorem tB_in {i : Nat} {σ : Sg} {H : Hp} {Q : Bool → Hp → Prop} (ho : i ∈ o) (h : tDTS X.K o (cTest (cDIn false f i)) σ H Q) :
    tDS X.K o f σ H fun y H1 => tVar i σ H1 fun x H2 => ∃ a ov, x = .ref a ∧ DGet H2 a y ov ∧ ∃ c, V.bl ov.isSome = .bl c ∧ Q c H2 := by
  obtain ⟨g, fg, B, env, t, c, t', r, e, q⟩ := h
  unfold cTest cDIn at e
  split at e
  · rename_i b t1 e1
    cases e
    split at e1
    · rename_i d t2 ef
      split at e1
      · rename_i k ek
        split at e1
        · rename_i ps ei
          split at e1
          rotate_left
          · cases e1
          rename_i nm
          cases e1
          refine ⟨g, fg, B, env, t, d, _, r, ef, fun v B1 H1 r1 sb hv => ?_⟩
          obtain ⟨q1, s1, k1, k2, k3, k4⟩ := r1.own i _ ho ei
          obtain ⟨kvs, h1, h2⟩ := k4.dict nm
          refine ⟨_, s1, q1, valV kvs k, rfl, by rw [hv.key ek]; exact .k h1, ?_⟩
          have e3 : (valV kvs k).isSome = (getD ps k).isSome := by
            rcases h2.get k with ⟨z1, z2⟩ | ⟨v, d, z1, z2, _⟩ <;> rw [z1, z2] <;> rfl
          refine ⟨_, rfl, ?_⟩
          rw [e3]
          exact q B1 H1 r1
        · cases e1
      · cases e1
    · cases e1
  · cases e
theorem ets_notin (i : Nat) (hu : X.A.units + 100 < cLine) (ha : EVS X o a f) (ho : i ∈ o := by decide) (hN : X.N[i]? = some x := by rfl) (hv : Vis X.env.scope x := by first | exact Or.inl rfl | exact Or.inr (Or.inl rfl) | exact Or.inr (Or.inr rfl)) (hd : (x == ("__debug__" : Str)) = false := by decide) (hcd : (x == ("__classdict__" : Str)) = false := by decide)
    (h1 : behindInMarks .NotIn (.Name x p) = false := by first | exact nobehind _ (by decide) (by decide) | rfl) : ETS X o (.Compare a [.NotIn] [.Name x p] pos) (cTest (cDIn true f i)) :=
  ⟨pt_weak (pt_cmp (pc_dnotin (Nat.lt_of_le_of_lt (by omega) hu) ha.pe (pe_var hN hv hd hcd)) h1) fun σ H Q h => tB_notin ho h⟩
theorem ets_in (i : Nat) (hu : X.A.units + 100 < cLine) (ha : EVS X o a f) (ho : i ∈ o := by decide) (hN : X.N[i]? = some x := by rfl) (hv : Vis X.env.scope x := by first | exact Or.inl rfl | exact Or.inr (Or.inl rfl) | exact Or.inr (Or.inr rfl)) (hd : (x == ("__debug__" : Str)) = false := by decide) (hcd : (x == ("__classdict__" : Str)) = false := by decide)
    (h1 : behindInMarks .In (.Name x p) = false := by first | exact nobehind _ (by decide) (by decide) | rfl) : ETS X o (.Compare a [.In] [.Name x p] pos) (cTest (cDIn false f i)) :=
  ⟨pt_weak (pt_cmp (pc_din (Nat.lt_of_le_of_lt (by omega) hu) ha.pe (pe_var hN hv hd hcd)) h1) fun σ H Q h => tB_in ho h⟩
theorem es_dput (i : Nat) (hu : X.A.units + 100 < cLine) (he : EVS X o e f) (hk : EVS X o a fk) (ho : i ∈ o := by decide) (hN : X.N[i]? = some x := by rfl) (hv : Vis X.env.scope x := by first | exact Or.inl rfl | exact Or.inr (Or.inl rfl) | exact Or.inr (Or.inr rfl)) (hd : (x == ("__debug__" : Str)) = false := by decide) (hcd : (x == ("__classdict__" : Str)) = false := by decide)
    (hs : swapsWith e (some (.Subscript (.Name x p) a p2)) pos.line X.env = pure false := by rfl) : ES X R o (.Assign [.Subscript (.Name x p) a p2] e pos) (sDPutE i f fk) o :=
  ⟨ps_weak (ps_dput (Nat.lt_of_le_of_lt (by omega) hu) (pe_var hN hv hd hcd) hk.pe he.pe hs) fun E σ H h => by
  obtain ⟨g, fg, B, env, t, r, rp, e, q⟩ := h
  unfold sDPutE at e
  split at e
  · rename_i d t1 ef
    split at e
    · rename_i y t2 ek
      split at e
      · rename_i k eky
        split at e
        · rename_i ps ei
          split at e
          · rename_i hl
            cases e
            refine ⟨g, fg, B, env, t, d, t1, rp, ef, fun v B1 H1 r1 sb1 hv1 => ?_⟩
            obtain ⟨q1, s1, k1, k2, k3, k4⟩ := r1.own i _ ho ei
            refine ⟨_, s1, g, fg, B1, env, t1, y, t2, r1, ek, fun w B2 H2 r2 sb2 hw => ?_⟩
            obtain ⟨q2, s2, _, _, _, k5⟩ := r2.own i _ ho ei
            rw [s1] at s2
            cases s2
            obtain ⟨kvs, h1, h2⟩ := k5.dict hl.2
            have hz : kvs.length < sizeLine := lim_lt (by rw [h2.len]; exact hl.1)
            refine ⟨q1, _, rfl, by rw [hw.key eky]; exact .k h1 hz, ?_⟩
            exact q σ B2 _ (r2.mut ho ei s1 (.ofDK upd_same (h2.put (hv1.mono sb2))))
          · cases e
        · cases e
      · cases e
    · cases e
  · cases e⟩
theorem es_parD {i j : Nat} {x y : Str} {px py pt dp : Pos} {kt k2 pt2} (ha : EVS X o a f) (hc : X.calm = true) (hN : X.N.Nodup) (hij : i ≠ j := by decide) (hi : X.N[i]? = some x := by rfl) (hj : X.N[j]? = some y := by rfl)
    (hx : X.env.scope.names.lookup x = some .local := by rfl) (hy : X.env.scope.names.lookup y = some .local := by rfl)
    (hsa : starEach [a, .Dict [] [] dp] X.env = (false, eval a X.env) :: starEach [.Dict [] [] dp] X.env := by rfl) (hsb : starEach [.Dict [] [] dp] X.env = (false, eval (.Dict [] [] dp) X.env) :: starEach [] X.env := by rfl)
    (hw : swappedStores [.Tuple [.Name x px, .Name y py] kt pt] (.Tuple [a, .Dict [] [] dp] k2 pt2) X.env = pure (some [x, y]) := by rfl)
    (hs : swapsWithSole [.Tuple [.Name x px, .Name y py] kt pt] (.Tuple [a, .Dict [] [] dp] k2 pt2) pos.line X.env = pure false := by rfl) :
    ES X R o (.Assign [.Tuple [.Name x px, .Name y py] kt pt] (.Tuple [a, .Dict [] [] dp] k2 pt2) pos) (sParD i j f) (j :: (o.filter (· ≠ i)).filter (· ≠ j)) :=
  ⟨ps_weak (ps_par hc hN hi hj hij hx hy (pa_cons ha.pe (pa_cons pe_dnewK pa_nil hsb) hsa) hw hs) fun E σ H h => by
  obtain ⟨g, fg, B, env, t, r, rp, e, q⟩ := h
  unfold sParD at e
  split at e
  · rename_i d t' ef
    cases e
    refine ⟨g, fg, B, env, t, d, t', rp, ef, fun v B1 H1 r1 sb1 hv1 => ?_⟩
    intro p np
    have s := Step.hid (o := .dK []) r1.bs np
    have bp : B1 p = none := by
      cases z : B1 p with
      | none => rfl
      | some x => rw [r1.bs.sub p x z] at np; cases np
    have r2 := (r1.step s).set (i := i) (hv1 : Hd X.K g B1 v d)
    refine ⟨v, .ref p, rfl, q _ B1 _ (r2.setOwn (ne_of_none r1.bs.tp np).symm bp (r1.fresh np) ?_ (.ofDK upd_same .nil))⟩
    intro k d2 hk ek z
    have r3 := r1.set (i := i) (hv1 : Hd X.K g B1 v d)
    obtain ⟨q1, z1, _, _, _, z4⟩ := r3.own k d2 hk ek
    rw [z] at z1
    cases z1
    exact z4.live np
  · cases e⟩
end

/-! ### names of the written part that stand for values -/
def absD : Value → Option D
  | .none => some .none
  | .bool b => some (.bool b)
  | .int i _ => some (.int i)
  | .str x _ => some (.str x)
  | _ => none
def absL : List Value → Option (List D)
  | [] => some []
  | v :: vs => match absD v with
    | some d => match absL vs with
      | some ds => some (d :: ds)
      | none => none
    | none => none
theorem absD_rel {v : Value} {d : D} (h : absD v = some d) : ∃ u : V, RelV u v ∧ ∀ (K : PySem.W.Frag) (g : G) (B : Hp), Hd K g B u d := by
  cases v <;> cases h
  · exact ⟨.non, rfl, fun _ _ _ => .non⟩
  · exact ⟨.bl _, rfl, fun _ _ _ => .bl _⟩
  · exact ⟨.int _, ⟨_, rfl⟩, fun _ _ _ => .int _⟩
  · exact ⟨.str _, ⟨_, rfl⟩, fun _ _ _ => .str _⟩
theorem absL_rel : ∀ {vs : List Value} {ds : List D}, absL vs = some ds → ∃ us : List V, Vals us vs ∧ ∀ (K : PySem.W.Frag) (g : G) (B : Hp), HdL K g B us ds
  | [], ds, h => by cases h; exact ⟨[], .nil, fun _ _ _ => .nil⟩
  | v :: vs, ds, h => by
    unfold absL at h
    split at h
    · rename_i d e1
      split at h
      · rename_i ds' e2
        cases h
        obtain ⟨u, r1, k1⟩ := absD_rel e1
        obtain ⟨us, r2, k2⟩ := absL_rel e2
        exact ⟨u :: us, .cons r1 r2, fun K g B => .cons (k1 K g B) (k2 K g B)⟩
      · cases h
    · cases h
section
variable {K : PySem.W.Frag} {mg : Str → Option Value} {h : Heap} {x : Str}
theorem glAt_int (X : K.In h) (G : h.Ns mainGlobals mg) {i : Int} {t : Tok} (a : PySem.W.nsIn K mainGlobals x = some (some (.int i t))) : GlAt K mg x (.int i) :=
  ⟨.int i, _, PySem.W.mg_of X G a, ⟨t, rfl⟩, fun _ _ => .int i⟩
theorem glAt_tup (X : K.In h) (G : h.Ns mainGlobals mg) {p : Addr} {its : Array Value} {n : Nat} {ds : List D} (a : PySem.W.nsIn K mainGlobals x = some (some (.ref p))) (l : K.lookup p = some ⟨.type "tuple", none, .seq its n, #[]⟩)
    (e : absL its.toList = some ds) (hz : its.size ≤ 1000) : GlAt K mg x (.tuple ds) := by
  obtain ⟨us, r, k⟩ := absL_rel e
  exact ⟨.ref p, _, PySem.W.mg_of X G a, rfl, fun g B => .tup (.inr ⟨_, its, n, l, rfl, ⟨rfl, rfl⟩, rfl, Nat.le_trans hz (by show 1000 ≤ sizeLine; decide), r⟩) (k K g B)⟩
end
end PP

namespace PP
open PySem PySem.Spec PyProof.Rows L2

/-! ### list.index, list.pop(k), list.insert -/
def dIndex : D → D → Option D
  | .list xs, y => if flatD y = true ∧ xs.all flatD = true then (xs.findIdx? fun z => PyData.eqv z y).map fun j => .int (j : Nat) else none
  | _, _ => none
def sPopAt (i : Nat) (f : SE) : SS := fun e t => match f e t with
  | some (.int z, t') => match e[i]? with
    | some (some (.list ds)) => if ds.length ≤ LIM then (match ixN ds.length z with
      | some j => some (.nx (e.set i (some (.list (ds.eraseIdx j)))) t')
      | none => none) else none
    | _ => none
  | _ => none
def sIns (i : Nat) (fk f : SE) : SS := fun e t => match fk e t with
  | some (.int z, t1) => match f e t1 with
    | some (d, t2) => match e[i]? with
      | some (some (.list ds)) => if 0 ≤ z ∧ leN z 1000000 = true ∧ ds.length < LIM then some (.nx (e.set i (some (.list (ds.take z.toNat ++ [d] ++ ds.drop z.toNat)))) t2) else none
      | _ => none
    | none => none
  | _ => none
theorem HdL.erase {K : PySem.W.Frag} {g : G} {B : Hp} {xs : List V} {ds : List D} (h : HdL K g B xs ds) (j : Nat) : HdL K g B (xs.eraseIdx j) (ds.eraseIdx j) := by
  rw [List.eraseIdx_eq_take_drop_succ, List.eraseIdx_eq_take_drop_succ]
  exact (h.take j).app (h.drop (j + 1))
section
variable {X : Cx} {R : RT} {o : List Nat} {x : Str} {e a b : Expr} {f fk fa fb : SE} {p p2 p3 p4 apos cpos : Pos}
theorem ev_index (ha : EV X a fa) (hb : EV X b fb) (hbase : attributeBase a "index" X.env (eval a X.env) = eval a X.env := by rfl)
    (hfew : ((backTo cpos (starEach [b] X.env)).all (fun x => !x.1) && (backToKw cpos (keywordEach [] X.env)).all (fun x => x.1.isSome) && decide ([b].length + ([] : List Keyword).length + (if ([] : List Keyword).isEmpty then 0 else 1) < 30)) = true := by rfl)
    (hline : (apos.endLine == cpos.line) = true := by rfl) (hs : starEach [b] X.env = (false, eval b X.env) :: starEach [] X.env := by rfl) :
    EV X (.Call (.Attribute a "index" apos) [b] [] cpos) (cBin dIndex fa fb) :=
  ⟨pe_weak (pe_bm PySem.F.plainAttrs_list PySem.F.slot_list_index PySem.F.type_list_index mt_index ha.pe (pa_cons hb.pe pa_nil hs) hbase hfew hline hs rfl) fun σ H Q h => by
  obtain ⟨g, B, env, t, d, t', r, e, q⟩ := h
  unfold cBin at e
  split at e
  · rename_i da t1 ea
    split at e
    · rename_i db t2 eb
      split at e
      · rename_i z ez
        cases e
        unfold dIndex at ez
        split at ez
        · rename_i dz ds
          split at ez
          · rename_i hfl
            cases hj : (ds.findIdx? fun z => PyData.eqv z db) with
            | none => rw [hj] at ez; cases ez
            | some j =>
              rw [hj] at ez
              cases ez
              refine ⟨g, B, env, t, _, t1, r, ea, fun v B1 H1 s1 hv => ?_⟩
              cases hv with
              | @lst a1 xs1 _ h1 h2 =>
              refine ⟨.inl ⟨rfl, _, SqL.of (s1.bs.sub _ _ h1)⟩, g, B1, env, t1, _, _, r.step s1, eb, fun w B2 H2 s2 hw => ?_⟩
              obtain ⟨hjl, hj1, hj2⟩ := List.findIdx?_eq_some_iff_getElem.mp hj
              obtain ⟨hf, _⟩ := HdL.inV (hw) hfl.1 (h2.mono s2.b1) hfl.2
              obtain ⟨u, hu1, hu2⟩ := (h2.mono s2.b1).get (List.getElem?_eq_getElem hjl)
              have hall := List.all_eq_true.mp hfl.2
              refine ⟨a1, xs1, w, j, u, rfl, rfl, SqL.of (s2.bs.sub _ _ (s2.b1 _ _ h1)), by rw [hw.flat]; exact hfl.1, hf, hu1, by rw [hu2.eqv hw (hall _ (List.getElem_mem hjl)) hfl.1]; exact hj1, fun m z' hm hz' => ?_, q _ B2 H2 (s1.trans r.bs s2) (.int _)⟩
              have hm2 : m < ds.length := by omega
              obtain ⟨u', hu1', hu2'⟩ := (h2.mono s2.b1).get (List.getElem?_eq_getElem hm2)
              rw [hz'] at hu1'
              cases hu1'
              rw [hu2'.eqv hw (hall _ (List.getElem_mem hm2)) hfl.1]
              have := hj2 m hm
              simpa using this
          · cases ez
        · cases ez
      · cases e
    · cases e
  · cases e⟩
theorem es_popAt (i : Nat) (h : EVS X o e f) (ho : i ∈ o := by decide) (hN : X.N[i]? = some x := by rfl) (hv : Vis X.env.scope x := by first | exact Or.inl rfl | exact Or.inr (Or.inl rfl) | exact Or.inr (Or.inr rfl)) (hd : (x == ("__debug__" : Str)) = false := by decide) (hcd : (x == ("__classdict__" : Str)) = false := by decide)
    (hbase : attributeBase (.Name x p) "pop" X.env (eval (.Name x p) X.env) = eval (.Name x p) X.env := by rfl)
    (hfew : ((backTo p3 (starEach [e] X.env)).all (fun x => !x.1) && (backToKw p3 (keywordEach [] X.env)).all (fun x => x.1.isSome) && decide ([e].length + ([] : List Keyword).length + (if ([] : List Keyword).isEmpty then 0 else 1) < 30)) = true := by rfl)
    (hline : (p2.endLine == p3.line) = true := by rfl) (hs : starEach [e] X.env = (false, eval e X.env) :: starEach [] X.env := by rfl) (hsw : swapsWith (.Call (.Attribute (.Name x p) "pop" p2) [e] [] p3) none p4.line X.env = pure false := by rfl) :
    ES X R o (.Expr (.Call (.Attribute (.Name x p) "pop" p2) [e] [] p3) p4) (sPopAt i f) o := ⟨ps_weak (ps_expr (pe_bm PySem.F.plainAttrs_list PySem.F.slot_list_pop PySem.F.type_list_pop mt_popAt (pe_var hN hv hd hcd) (pa_cons h.pe pa_nil hs) hbase hfew hline hs rfl) hsw) fun E σ H h => by
  obtain ⟨g, fg, B, env, t, r, rp, e, q⟩ := h
  unfold sPopAt at e
  split at e
  · rename_i z t' ef
    split at e
    · rename_i ds ei
      split at e
      · rename_i hl
        split at e
        · rename_i j hj
          cases e
          obtain ⟨p, s1, k1, k2, k3, k4⟩ := rp.own i _ ho ei
          obtain ⟨xs, hx, hd⟩ := k4.list
          refine ⟨_, s1, .inl ⟨rfl, xs, SqL.of hx⟩, g, fg, B, env, t, _, t', rp, ef, fun v B1 H1 r1 sb1 h1 => ?_⟩
          cases h1
          obtain ⟨p', s1', _, _, _, k4'⟩ := r1.own i _ ho ei
          rw [s1] at s1'
          cases s1'
          obtain ⟨xs', hx', hd'⟩ := k4'.list
          obtain ⟨q1, q2, q3, q4⟩ := ixN_seq hj
          have hlen := hd'.len
          have hl3 : ds.length ≤ 100000 := hl
          obtain ⟨y, hy, _⟩ := hd'.get (List.getElem?_eq_getElem q2)
          refine ⟨p, xs', z, j, y, rfl, rfl, hx', by omega, by omega, by rw [hlen]; exact q1, hy, ?_⟩
          exact q σ B1 _ (r1.mut ho ei s1 (.lst upd_same (hd'.erase j)))
        · cases e
      · cases e
    · cases e
  · cases e⟩
theorem es_insert (i : Nat) (hk : EVS X o a fk) (h : EVS X o e f) (ho : i ∈ o := by decide) (hN : X.N[i]? = some x := by rfl) (hv : Vis X.env.scope x := by first | exact Or.inl rfl | exact Or.inr (Or.inl rfl) | exact Or.inr (Or.inr rfl)) (hd : (x == ("__debug__" : Str)) = false := by decide) (hcd : (x == ("__classdict__" : Str)) = false := by decide)
    (hbase : attributeBase (.Name x p) "insert" X.env (eval (.Name x p) X.env) = eval (.Name x p) X.env := by rfl)
    (hfew : ((backTo p3 (starEach [a, e] X.env)).all (fun x => !x.1) && (backToKw p3 (keywordEach [] X.env)).all (fun x => x.1.isSome) && decide ([a, e].length + ([] : List Keyword).length + (if ([] : List Keyword).isEmpty then 0 else 1) < 30)) = true := by rfl)
    (hline : (p2.endLine == p3.line) = true := by rfl) (hs : starEach [a, e] X.env = (false, eval a X.env) :: starEach [e] X.env := by rfl) (hs2 : starEach [e] X.env = (false, eval e X.env) :: starEach [] X.env := by rfl) (hpl : (backTo p3 (starEach [e] X.env)).any (·.1) = false := by rfl)
    (hsw : swapsWith (.Call (.Attribute (.Name x p) "insert" p2) [a, e] [] p3) none p4.line X.env = pure false := by rfl) :
    ES X R o (.Expr (.Call (.Attribute (.Name x p) "insert" p2) [a, e] [] p3) p4) (sIns i fk f) o := ⟨ps_weak (ps_expr (pe_bm PySem.F.plainAttrs_list PySem.F.slot_list_insert PySem.F.type_list_insert mt_insert (pe_var hN hv hd hcd) (pa_cons hk.pe (pa_cons h.pe pa_nil hs2) hs) hbase hfew hline hs hpl) hsw) fun E σ H h => by
  obtain ⟨g, fg, B, env, t, r, rp, e, q⟩ := h
  unfold sIns at e
  split at e
  · rename_i z t1 ek
    split at e
    · rename_i d t2 ef
      split at e
      · rename_i ds ei
        split at e
        · rename_i hl
          cases e
          obtain ⟨p, s1, k1, k2, k3, k4⟩ := rp.own i _ ho ei
          obtain ⟨xs, hx, hd⟩ := k4.list
          refine ⟨_, s1, .inl ⟨rfl, xs, SqL.of hx⟩, g, fg, B, env, t, _, t1, rp, ek, fun w B1 H1 r1 sb1 hw => ?_⟩
          cases hw
          refine ⟨g, fg, B1, env, t1, d, t2, r1, ef, fun v B2 H2 r2 sb2 h2 => ?_⟩
          obtain ⟨p', s1', _, _, _, k4'⟩ := r2.own i _ ho ei
          rw [s1] at s1'
          cases s1'
          obtain ⟨xs', hx', hd'⟩ := k4'.list
          have hzz := leN_ok hl.2.1
          refine ⟨p, xs', z, v, rfl, rfl, hx', lim_lt (by rw [hd'.len]; exact hl.2.2), hl.1, by omega, ?_⟩
          exact q σ B2 _ (r2.mut ho ei s1 (.lst upd_same (((hd'.take _).app (.cons h2 .nil)).app (hd'.drop _))))
        · cases e
      · cases e
    · cases e
  · cases e⟩
end
end PP

namespace PP
open PySem PySem.Spec PyProof.Rows L2

/-! ### a, b = .., [] with b one's own -/
def sParL (i j : Nat) (f : SE) : SS := fun e t => match f e t with
  | some (d, t') => some (.nx ((e.set i (some d)).set j (some (.list []))) t')
  | none => none
section
variable {X : Cx} {R : RT} {o : List Nat} {a : Expr} {f : SE} {pos : Pos}
theorem es_parL {i j : Nat} {x y : Str} {px py pt dp : Pos} {kt k2 pt2} (ha : EVS X o a f) (hc : X.calm = true) (hN : X.N.Nodup) (hij : i ≠ j := by decide) (hi : X.N[i]? = some x := by rfl) (hj : X.N[j]? = some y := by rfl)
    (hx : X.env.scope.names.lookup x = some .local := by rfl) (hy : X.env.scope.names.lookup y = some .local := by rfl)
    (hsa : starEach [a, .List [] dp] X.env = (false, eval a X.env) :: starEach [.List [] dp] X.env := by rfl) (hsb : starEach [.List [] dp] X.env = (false, eval (.List [] dp) X.env) :: starEach [] X.env := by rfl)
    (hw : swappedStores [.Tuple [.Name x px, .Name y py] kt pt] (.Tuple [a, .List [] dp] k2 pt2) X.env = pure (some [x, y]) := by rfl)
    (hs : swapsWithSole [.Tuple [.Name x px, .Name y py] kt pt] (.Tuple [a, .List [] dp] k2 pt2) pos.line X.env = pure false := by rfl) :
    ES X R o (.Assign [.Tuple [.Name x px, .Name y py] kt pt] (.Tuple [a, .List [] dp] k2 pt2) pos) (sParL i j f) (j :: (o.filter (· ≠ i)).filter (· ≠ j)) :=
  ⟨ps_weak (ps_par hc hN hi hj hij hx hy (pa_cons ha.pe (pa_cons (pe_lst pa_nil) pa_nil hsb) hsa) hw hs) fun E σ H h => by
  obtain ⟨g, fg, B, env, t, r, rp, e, q⟩ := h
  unfold sParL at e
  split at e
  · rename_i d t' ef
    cases e
    refine ⟨g, fg, B, env, t, d, t', rp, ef, fun v B1 H1 r1 sb1 hv1 => ?_⟩
    refine ⟨Nat.zero_le _, fun p np => ?_⟩
    have s := Step.hid (o := .lst []) r1.bs np
    have bp : B1 p = none := by
      cases z : B1 p with
      | none => rfl
      | some x => rw [r1.bs.sub p x z] at np; cases np
    have r2 := (r1.step s).set (i := i) (hv1 : Hd X.K g B1 v d)
    refine ⟨v, .ref p, rfl, q _ B1 _ (r2.setOwn (ne_of_none r1.bs.tp np).symm bp (r1.fresh np) ?_ (.lst upd_same .nil))⟩
    intro k d2 hk ek z
    have r3 := r1.set (i := i) (hv1 : Hd X.K g B1 v d)
    obtain ⟨q1, z1, _, _, _, z4⟩ := r3.own k d2 hk ek
    rw [z] at z1
    cases z1
    exact z4.live np
  · cases e⟩
end
end PP

namespace PP
open PySem PySem.Spec PyProof.Rows L2

/-! ### dicts of texts: displays, d[k] -/
def dDGet : D → D → Option D
  | .dict ps, x => match keyOf x with
    | some k => getD ps k
    | none => none
  | _, _ => none
section
variable {X : Cx} {a b : Expr} {fa fb : SE} {pos : Pos}
theorem DK.ofHd {K : PySem.W.Frag} {g : G} {B : Hp} {v : V} {ps : List (D × D)} (h : Hd K g B v (.dict ps)) : (∃ p kvs, v = .ref p ∧ B p = some (.dK kvs) ∧ DK K g B kvs ps) ∨ ((ps.length = 1 ∨ nmk ps = false) ∧ ∀ k, getD ps k = none) := by
  generalize e : (PyData.dict ps : D) = d at h
  cases h with
  | dct h1 h2 => cases e; exact .inl ⟨_, _, rfl, h1, .of h2⟩
  | tape => cases e; exact .inr ⟨.inl rfl, fun k => by cases k <;> rfl⟩
  | @dx a ob ks dk dv _ _ _ _ h5 =>
    cases e
    refine .inr ⟨.inr rfl, fun k => ?_⟩
    unfold getD
    rw [Option.map_eq_none_iff, List.find?_eq_none]
    intro p hp
    rcases List.mem_cons.mp hp with z | z
    · subst z; cases k <;> exact Bool.false_ne_true
    · have hz : nkD p.1 ∈ dk.map nkD := List.mem_map_of_mem (List.of_mem_zip z).1
      rw [h5] at hz
      obtain ⟨x, _, hx⟩ := List.mem_map.mp hz
      cases q : p.1 <;> cases k <;> simp [isKy]
      all_goals (rw [q] at hx; simp [nkD] at hx)
  | _ => cases e
theorem ev_dget (ha : EV X a fa) (hb : EV X b fb) (hu : X.A.units + 100 < cLine) (hs : NoSl b := by intro _ _; rfl) : EV X (.Subscript a b pos) (cBin dDGet fa fb) :=
  ⟨pe_weak (pe_dget (Nat.lt_of_le_of_lt (by omega) hu) ha.pe hb.pe hs) fun σ H Q h => by
  obtain ⟨g, B, env, t, d, t', r, e, q⟩ := h
  unfold cBin at e
  split at e
  · rename_i da t1 ea
    split at e
    · rename_i db t2 eb
      split at e
      · rename_i z ez
        cases e
        unfold dDGet at ez
        split at ez
        · rename_i dz ps
          split at ez
          · rename_i k ek
            refine ⟨g, B, env, t, _, t1, r, ea, fun v B1 H1 s1 hv => ⟨g, B1, env, t1, _, _, r.step s1, eb, fun w B2 H2 s2 hw => ?_⟩⟩
            rcases DK.ofHd hv with ⟨p, kvs, rfl, h1, h2⟩ | ⟨_, hn⟩
            · rcases (h2.mono s2.b1).get k with ⟨_, z2⟩ | ⟨v, d2, z1, z2, z3⟩
              · rw [z2] at ez; cases ez
              · rw [z2] at ez
                cases ez
                refine ⟨p, v, rfl, ?_, q _ B2 H2 (s1.trans r.bs s2) z3⟩
                rw [hw.key ek, ← z1]
                exact .k (s2.bs.sub _ _ (s2.b1 _ _ h1))
            · rw [hn k] at ez; cases ez
          · cases ez
        · cases ez
      · cases e
    · cases e
  · cases e⟩
/-- {'..': '..', ..} -/
def dMrg : List (Str × Str) → List (D × D) → List (D × D)
  | [], ps => ps
  | (k, v) :: r, ps => dMrg r (putD ps (.inr k) (.str v))
structure SPs (X : Cx) (pos : Pos) (keys : List (Option Expr)) (values : List Expr) (kvs : List (Str × Str)) : Prop where
  pps : PPs X pos keys values (kvs.map fun kv => (tC (.str kv.1), tC (.str kv.2)))
theorem sps_nil : SPs X pos [] [] [] := ⟨pps_nil⟩
theorem sps_cons {k v : Str} {j j2 : Nat} {p p2 : Pos} {ks : List (Option Expr)} {vs : List Expr} {r : List (Str × Str)} (h : SPs X pos ks vs r) : SPs X pos (some (.Constant (.str k) j p) :: ks) (.Constant (.str v) j2 p2 :: vs) ((k, v) :: r) :=
  ⟨pps_cons pe_str pe_str h.pps⟩
theorem pairs_c (σ : Sg) (H : Hp) : ∀ (kvs : List (Str × Str)) (Q : List (V × V) → Hp → Prop), Q (kvs.map fun kv => (V.str kv.1, V.str kv.2)) H → tPairs (kvs.map fun kv => (tC (.str kv.1), tC (.str kv.2))) σ H Q
  | [], Q, h => h
  | kv :: kvs, Q, h => pairs_c σ H kvs _ h
theorem merge_dk {K : PySem.W.Frag} {g : G} {B : Hp} : ∀ (r : List (Str × Str)) {kvs : List (Key × V)} {ps : List (D × D)}, DK K g B kvs ps → DK K g B (mergeK kvs (r.map fun kv => ((.inr kv.1 : Key), V.str kv.2))) (dMrg r ps)
  | [], _, _, h => h
  | kv :: r, _, _, h => merge_dk r (h.put (.str _))
def cDisp (kvs : List (Str × Str)) : SE := fun _ t => some (.dict (dMrg kvs []), t)
theorem ef_disp {keys : List (Option Expr)} {values : List Expr} {kvs : List (Str × Str)} (h : SPs X pos keys values kvs) (h15 : kvs.length ≤ 15 := by decide) (hall : keys.all (·.isSome) = true := by rfl) (hl : keys.length = values.length := by rfl) (h0 : keys ≠ [] := by exact List.cons_ne_nil _ _)
    (hk : keys.length ≤ 15 := by decide) : EF X (.Dict keys values pos) (cDisp kvs) := ⟨pe_weak (pe_disp h.pps hall hl h0 hk) fun σ H Q h => by
  obtain ⟨g, B, env, t, d, t', r, e, q⟩ := h
  cases e
  intro p np
  refine pairs_c σ _ kvs _ ⟨upd_same, kvs.map (fun kv => ((.inr kv.1 : Key), V.str kv.2)), by rw [List.map_map]; rfl, by simpa using h15, ?_⟩
  have bp : B p = none := by
    cases z : B p with
    | none => rfl
    | some x => rw [r.bs.sub p x z] at np; cases np
  have s1 := Step.hid (o := .dK []) r.bs np
  have s2 := Step.mut (o := .dK (mergeK [] (kvs.map (fun kv => ((.inr kv.1 : Key), V.str kv.2))))) r.bs s1 np bp
  exact q p B _ s2 np bp (.ofDK upd_same (merge_dk kvs .nil))⟩
end
end PP

namespace PP
open PySem PySem.Spec PyProof.Rows L2

/-! ### d.get(k, else) -/
def cDGet2 (f fk fx : SE) : SE := fun e t => match f e t with
  | some (.dict ps, t1) => match fk e t1 with
    | some (x, t2) => match fx e t2 with
      | some (z, t3) => match keyOf x with
        | some k => if ps.length = 1 ∨ nmk ps = false then none else some ((getD ps k).getD z, t3)
        | none => none
      | none => none
    | none => none
  | _ => none
section
variable {X : Cx} {a b c : Expr} {fa fb fc : SE} {apos cpos : Pos}
theorem ev_dget2 (ha : EV X a fa) (hb : EV X b fb) (hc : EV X c fc) (hu : X.A.units + 100 < cLine) (m : M2 X a "get" apos b c cpos := by exact ⟨rfl, rfl, rfl, rfl⟩) : EV X (.Call (.Attribute a "get" apos) [b, c] [] cpos) (cDGet2 fa fb fc) :=
  ⟨pe_weak (pe_dget2 (Nat.lt_of_le_of_lt (by omega) hu) ha.pe hb.pe hc.pe m) fun σ H Q h => by
  obtain ⟨g, B, env, t, d, t', r, e, q⟩ := h
  unfold cDGet2 at e
  split at e
  · rename_i ps t1 ea
    split at e
    · rename_i x t2 eb
      split at e
      · rename_i z t3 ec
        split at e
        · rename_i k ek
          split at e
          · cases e
          · rename_i hl
            cases e
            refine ⟨g, B, env, t, _, t1, r, ea, fun v B1 H1 s1 hv => ?_⟩
            rcases DK.ofHd hv with ⟨p, kvs, rfl, h1, h2⟩ | ⟨hn, _⟩
            · refine ⟨p, rfl, .inl ⟨kvs, .inl (s1.bs.sub _ _ h1)⟩, g, B1, env, t1, _, _, r.step s1, eb, fun w B2 H2 s2 hw => ⟨g, B2, env, t2, _, _, (r.step s1).step s2, ec, fun y B3 H3 s3 hy => ?_⟩⟩
              have hD := s3.bs.sub _ _ (s3.b1 _ _ (s2.b1 _ _ h1))
              have h3 := (h2.mono s2.b1).mono s3.b1
              refine ⟨valV kvs k, by rw [hw.key ek]; exact .k hD, ?_⟩
              rcases h3.get k with ⟨z1, z2⟩ | ⟨v, d2, z1, z2, z3⟩
              · rw [z1]
                rw [z2] at q
                exact q _ B3 H3 ((s1.trans r.bs s2).trans r.bs s3) hy
              · rw [z1]
                rw [z2] at q
                exact q _ B3 H3 ((s1.trans r.bs s2).trans r.bs s3) z3
            · exact absurd hn hl
        · cases e
      · cases e
    · cases e
  · cases e⟩
end
end PP

namespace PP
open PySem PySem.Spec PyProof.Rows L2

/-! ### *range(..) in a display -/
section
variable {X : Cx} {pins : List (Addr × Obj)} {σ : Sg} {H : Hp} {s : Shared}
theorem star_rg {a b : Int} {r : Addr} {t u v : Tok} {E : Value → Shared → Prop} {Q : List Value → Shared → Prop} (hc : X.calm = true) (I : Inv X pins σ H s) (hr : IsRange s.heap r a b 1 t u v) (ok : RgOk a b)
    (hQ : ∀ us s', Inv X pins σ H s' → Vals (rgV a b) us → Q us s') : PySem.W.StarOf (model X.prog X.w) X.A E (.ref r) Q s := by
  obtain ⟨b1, b2, b3, b4, b5⟩ := ok
  have hT : s.TypeIs (.ref r) "range" := ⟨_, hr, rfl⟩
  have z : wpAny (model X.prog X.w) X.A (collect (.ref r)) Q E s := collect_range (n := (b - a).toNat) (I.ok.hd hc) hr (small_one b1 b2 b3 b4) (rangeSize_nat a b) b5 fun h' tk acc hk hi => hQ _ _ (I.kept (t' := tk) hk) (vals_rg hi)
  unfold PySem.W.StarOf notIterableAtAll
  exact wpAny_bind (wpAny_specialOf hT PySem.F.slot_range_iter.lookup (wpAny_pure ⟨rfl, z⟩))
end
section
variable {X : Cx} {e : Expr} {es : List Expr} {p : Pos} {te : Sg → Hp → (Int → Int → Hp → Prop) → Prop} {t : TA}
def tStarRg (te : Sg → Hp → (Int → Int → Hp → Prop) → Prop) (t : TA) : TA := fun σ H Q => te σ H fun a b H1 => RgOk a b ∧ t σ H1 fun ys H2 => Q (rgV a b ++ ys) H2
theorem pa_starRg (hc : X.calm = true) (he : PRg X e te) (hr : PA X es t) (hs : starEach (.Starred e p :: es) X.env = (true, eval e X.env) :: starEach es X.env := by rfl) : PA X (.Starred e p :: es) (tStarRg te t) := by
  refine ⟨fun pos pins s σ H Q I h => ?_⟩
  refine PySem.W.items_star (thn (he pins s σ H _ I h) fun x s1 ⟨r, a, b, t1, u, v, H1, ex, hrg, I1, ok, q⟩ => ?_) hs
  subst ex
  refine star_rg hc I1 hrg ok fun us s2 I2 rv => ?_
  exact thn (hr.run pos pins s2 σ H1 _ I2 q) fun ws s3 ⟨vs, H3, I3, r3, q3⟩ => ⟨rgV a b ++ vs, H3, I3, rv.append r3, q3⟩
def aStarRg (fr : Env → T → Option (Int × Int × T)) (h : SA) : SA := fun e t => match fr e t with
  | some (a, b, t1) => if okRg a b = true then (match h e t1 with
    | some (ys, t2) => some (rng a (b - a).toNat ++ ys, t2)
    | none => none) else none
  | none => none
theorem ea_starRg {fr : Env → T → Option (Int × Int × T)} {fs : SA} (h : ERg X e fr) (hc : X.calm = true) (hr : EA X es fs) (hs : starEach (.Starred e p :: es) X.env = (true, eval e X.env) :: starEach es X.env := by rfl) : EA X (.Starred e p :: es) (aStarRg fr fs) := by
  obtain ⟨t, ht, hw⟩ := h.prg
  refine ⟨pa_weak (pa_starRg hc ht hr.pa hs) fun σ H Q h => ?_⟩
  obtain ⟨g, B, env, t, d, t', r, e, q⟩ := h
  unfold aStarRg at e
  split at e
  · rename_i i j t1 e1
    split at e
    · rename_i hok
      split at e
      · rename_i ys t2 e2
        cases e
        exact hw σ H _ ⟨g, B, env, t, i, j, t1, r, e1, fun B1 H1 s1 => ⟨okRg_ok hok, g, B1, env, t1, ys, _, r.step s1, e2, fun vs B2 H2 s2 h2 => q _ B2 H2 (s1.trans r.bs s2) ((rgV_hd i j).app h2)⟩⟩
      · cases e
    · cases e
  · cases e
end

/-! ### {'..': e, ..} -/
def dMrgE : List (Str × D) → List (D × D) → List (D × D)
  | [], ps => ps
  | (k, v) :: r, ps => dMrgE r (putD ps (.inr k) v)
def valsE : List (Str × SE) → Env → T → Option (List (Str × D) × T)
  | [], _, t => some ([], t)
  | (k, f) :: r, e, t => match f e t with
    | some (d, t1) => match valsE r e t1 with
      | some (q, t2) => some ((k, d) :: q, t2)
      | none => none
    | none => none
def cDispE (kvs : List (Str × SE)) : SE := fun e t => match valsE kvs e t with
  | some (q, t') => some (.dict (dMrgE q []), t')
  | none => none
inductive SKV (K : PySem.W.Frag) (g : G) (B : Hp) : List (Key × V) → List (Str × D) → Prop
  | nil : SKV K g B [] []
  | cons {k : Str} {v : V} {d : D} {r : List (Key × V)} {q : List (Str × D)} : Hd K g B v d → SKV K g B r q → SKV K g B ((.inr k, v) :: r) ((k, d) :: q)
theorem SKV.len {K : PySem.W.Frag} {g : G} {B : Hp} : ∀ {r : List (Key × V)} {q : List (Str × D)}, SKV K g B r q → r.length = q.length
  | _, _, .nil => rfl
  | _, _, .cons _ h => congrArg (· + 1) h.len
theorem SKV.merge {K : PySem.W.Frag} {g : G} {B : Hp} : ∀ {r : List (Key × V)} {q : List (Str × D)} {kvs : List (Key × V)} {ps : List (D × D)}, SKV K g B r q → DK K g B kvs ps → DK K g B (mergeK kvs r) (dMrgE q ps)
  | _, _, _, _, .nil, h => h
  | _, _, _, _, .cons hv hr, h => hr.merge (h.put hv)
theorem valsE_len : ∀ {kvs : List (Str × SE)} {e : Env} {t t' : T} {q : List (Str × D)}, valsE kvs e t = some (q, t') → q.length = kvs.length
  | [], _, _, _, _, h => by cases h; rfl
  | (k, f) :: r, e, t, t', q, h => by
    unfold valsE at h
    split at h
    · split at h
      · rename_i e2
        cases h
        rw [List.length_cons, List.length_cons, valsE_len e2]
      · cases h
    · cases h
section
variable {X : Cx} {pos : Pos}
structure SPe (X : Cx) (pos : Pos) (keys : List (Option Expr)) (values : List Expr) (kvs : List (Str × SE)) : Prop where
  pps : PPs X pos keys values (kvs.map fun kv => (tC (.str kv.1), tD X.K kv.2))
theorem spe_nil : SPe X pos [] [] [] := ⟨pps_nil⟩
theorem spe_cons {k : Str} {j : Nat} {p : Pos} {v : Expr} {f : SE} {ks : List (Option Expr)} {vs : List Expr} {r : List (Str × SE)} (hv : EV X v f) (h : SPe X pos ks vs r) : SPe X pos (some (.Constant (.str k) j p) :: ks) (v :: vs) ((k, f) :: r) :=
  ⟨pps_cons pe_str hv.pe h.pps⟩
theorem pairs_e {K : PySem.W.Frag} (σ : Sg) : ∀ (kvs : List (Str × SE)) {g : G} {B : Hp} {env : Env} {t t' : T} {H : Hp} {qs : List (Str × D)} (r : Rep K g B H σ env t) (e : valsE kvs env t = some (qs, t')) (Q : List (V × V) → Hp → Prop)
    (hQ : ∀ (kv : List (Key × V)) (B' H' : Hp), Step g B H t' B' H' → SKV K g B' kv qs → Q (kv.map fun z => (kV z.1, z.2)) H'), tPairs (kvs.map fun kv => (tC (.str kv.1), tD K kv.2)) σ H Q
  | [], g, B, env, t, t', H, qs, r, e, Q, hQ => by
    cases e
    exact hQ [] B H (.refl r.bs) .nil
  | (k, f) :: kvs, g, B, env, t, t', H, qs, r, e, Q, hQ => by
    unfold valsE at e
    split at e
    · rename_i d t1 e1
      split at e
      · rename_i q t2 e2
        cases e
        refine ⟨g, B, env, t, d, t1, r, e1, fun v B1 H1 s1 hv => ?_⟩
        refine pairs_e σ kvs (r.step s1) e2 _ fun kv B2 H2 s2 hk => ?_
        exact hQ ((.inr k, v) :: kv) B2 H2 (s1.trans r.bs s2) (.cons (hv.mono s2.b1) hk)
      · cases e
    · cases e
theorem ef_dispE {keys : List (Option Expr)} {values : List Expr} {kvs : List (Str × SE)} (h : SPe X pos keys values kvs) (h15 : kvs.length ≤ 15 := by decide) (hall : keys.all (·.isSome) = true := by rfl) (hl : keys.length = values.length := by rfl) (h0 : keys ≠ [] := by exact List.cons_ne_nil _ _)
    (hk : keys.length ≤ 15 := by decide) : EF X (.Dict keys values pos) (cDispE kvs) := ⟨pe_weak (pe_disp h.pps hall hl h0 hk) fun σ H Q h => by
  obtain ⟨g, B, env, t, d, t', r, e, q⟩ := h
  unfold cDispE at e
  split at e
  · rename_i qs t1 e1
    cases e
    intro p np
    have bp : B p = none := by
      cases z : B p with
      | none => rfl
      | some x => rw [r.bs.sub p x z] at np; cases np
    have nt : g.ta ≠ p := ne_of_none r.bs.tp np
    have s1 := Step.hid (o := .dK []) r.bs np
    refine pairs_e σ kvs (r.step s1) e1 _ fun kv B2 H2 s2 hk2 => ⟨s2.h1 p _ (fun z => nt z.symm) upd_same, kv, rfl, by rw [hk2.len, valsE_len e1]; exact h15, ?_⟩
    have s3 := s1.trans r.bs s2
    have b2 : B2 p = none := s2.b3 p (by rw [upd_same]; exact fun z => nomatch z) bp
    exact q p B2 _ (Step.mut (o := .dK (mergeK [] kv)) r.bs s3 np b2) np b2 (.ofDK upd_same (hk2.merge .nil))
  · cases e⟩
end
end PP

/-! ### enumerate(tuple) -/
namespace PP
open PySem PySem.Spec PyProof.Rows
open AutoSeq1 (wpAny_loadPart')
theorem meets_enumerate_newT (l : Addr) (items : Array Value) (n : Nat) (dct : Option Addr) (sl : Array (Option Value)) :
    Meets (Builtin.«enumerate.__new__» ⟨[.type "enumerate", .ref l], []⟩) (fun _ R s => s.heap.get? l = some { cls := .type "tuple", dict := dct, data := .seq items n, slots := sl } ∧
      R (.ok (.ret (.ref (s.heap.push { cls := .type "tuple_iterator", data := .fields #[.ref l, .int 0 0] }).objs.size)))
        { s with heap := (s.heap.push { cls := .type "tuple_iterator", data := .fields #[.ref l, .int 0 0] }).push { cls := .type "enumerate", data := .fields #[.none, .bool false, .ref s.heap.objs.size, rawInt 0, .none, .none] } }) :=
  .of_wp fun prog w A R s h => by
    obtain ⟨hp, g, d, tk, os⟩ := s; obtain ⟨hl, h⟩ := h
    have hsub := sub_enumerate
    have hL : Heap.IsTuple (Shared.heap ⟨hp, g, d, tk, os⟩) l items := ⟨_, hl, rfl, n, rfl⟩
    wp_walk using wpAny_loadPart' hl
    refine wpAny_stack_any fun st => wpAny_pure ?_
    split
    · rename_i c _ _ _ _ _
      cases (c == Value.type "enumerate")
      · wp_walk using wpAny_loadPart' hl, wpAny_pyIter_tuple hL
        exact ⟨_, rfl, h⟩
      · wp_walk using wpAny_loadPart' hl, wpAny_pyIter_tuple hL
        exact ⟨_, rfl, h⟩
    · wp_walk using wpAny_loadPart' hl, wpAny_pyIter_tuple hL
      exact ⟨_, rfl, h⟩
section
variable {prog : Program} {w : World} {A : Around} {E : Value → Shared → Prop} {s : Shared}
theorem call_enumerate_tuple {l : Addr} {items : Array Value} {Q : Value → Shared → Prop} (hL : s.heap.IsTuple l items)
    (h : ∀ h', IsEnum h' (s.heap.objs.size + 1) s.heap.objs.size 0 .none → h'.IsTupleIter s.heap.objs.size l 0 → h'.objs.size = s.heap.objs.size + 2 →
      (∀ b o, s.heap.get? b = some o → h'.get? b = some o) → Q (.ref (s.heap.objs.size + 1)) { s with heap := h' }) :
    wpAny (model prog w) A (call (.type "enumerate") [.ref l]) Q E s := by
  obtain ⟨⟨c, dct, dt, sl⟩, hl, hc, n, hd⟩ := hL
  replace hc : c = .type "tuple" := hc
  replace hd : dt = .seq items n := hd
  subst hc hd
  refine callType_new F.called_enumerate (by decide) (F.typeCall_enumerate_1 _) (F.newCall_enumerate_1 _) (fun obj => F.args_object_init_2 obj _) F.entry_enumerate_new
    (meets_enumerate_newT l items n dct sl) ⟨hl, ?_⟩
  have hz : (s.heap.push { cls := .type "tuple_iterator", data := .fields #[.ref l, .int 0 0] }).objs.size = s.heap.objs.size + 1 := Heap.size_push ..
  show _ ∧ _
  rw [hz]
  have he : IsEnum ((s.heap.push { cls := .type "tuple_iterator", data := .fields #[.ref l, .int 0 0] }).push
      { cls := .type "enumerate", data := .fields #[.none, .bool false, .ref s.heap.objs.size, rawInt 0, .none, .none] }) (s.heap.objs.size + 1) s.heap.objs.size 0 .none := by
    have := Heap.get?_push_size (s.heap.push { cls := .type "tuple_iterator", data := .fields #[.ref l, .int 0 0] })
      (o := { cls := .type "enumerate", data := .fields #[.none, .bool false, .ref s.heap.objs.size, rawInt 0, .none, .none] }) rfl
    rw [hz] at this; exact this
  refine ⟨⟨_, he, rfl⟩, h _ he ⟨_, Heap.get?_push_of_some _ (Heap.get?_push_size _ rfl), rfl, rfl⟩ (by rw [Heap.size_push, hz]) fun b o x => Heap.get?_push_of_some _ (Heap.get?_push_of_some _ x)⟩
end
open L2
/-- the tuple at a as it stands at each turn, each item in a new pair -/
def IteT (K : PySem.W.Frag) (a : Addr) : It :=
  ⟨fun i H => ∃ (xs : List V) (x : V), SqT K H a xs ∧ xs[i]? = some x, fun i H v H' => ∃ T x, v = .ref T ∧ H T = none ∧ H' = upd H T (.tup [.int (i : Nat), x]) ∧ ∀ xs, SqT K H a xs → xs[i]? = some x, fun i H => ∃ xs : List V, SqT K H a xs ∧ xs.length ≤ i⟩
theorem turn_enumT {P : Program} {w : World} {K : PySem.W.Frag} {elts : List Expr} {kk : Nat} {tpos : Pos} (a e it : Addr) :
    Turn P w K (.Tuple elts kk tpos) (IteT K a) [e, it] e (fun i h => (∃ old, IsEnum h e it ((i : Nat) : Int) old) ∧ h.IsTupleIter it a i ∧ e ≠ it) where
  mem := by simp
  obj := fun i h st b hb => by
    obtain ⟨⟨old, he⟩, ⟨o, ho, hc, hd⟩, _⟩ := st
    have e' : b = e ∨ b = it := by simpa using hb
    rcases e' with z | z
    · rw [z]; exact ⟨_, he, fun v q => nomatch q⟩
    · rw [z]; exact ⟨o, ho, fun v q => by rw [hd] at q; cases q⟩
  keep := fun i h h' st k => let ⟨⟨old, he⟩, hi, hne⟩ := st; ⟨⟨old, k e (by simp) _ he⟩, hi.at fun o q => k it (by simp) o q, hne⟩
  item := by
    intro X hP hw hK hc i pins s σ H E I hf st hg
    subst hP hw hK
    obtain ⟨⟨old, he⟩, hit, hne⟩ := st
    obtain ⟨xs, x, hq, hx⟩ := hg
    obtain ⟨its, rv, p, hz⟩ := I.tuple hq
    obtain ⟨u, hu, ru⟩ := rv.get hx
    have pT : s.heap.IsTuple a its.toArray := p
    have hel : e < s.heap.objs.size := Heap.lt_size he
    have hil : it < s.heap.objs.size := by obtain ⟨_, q, _⟩ := hit; exact Heap.lt_size q
    have hai : a ≠ it := fun z => by
      obtain ⟨o1, q1, c1, _⟩ := pT
      obtain ⟨o2, q2, c2, _⟩ := hit
      rw [z, q2] at q1
      injection q1 with q1
      rw [← q1, c2] at c1
      injection c1 with c1
      exact absurd c1 (by decide)
    have hea : e ≠ a := fun z => by
      obtain ⟨o1, q1, c1, _⟩ := pT
      rw [← z] at q1
      have := he.symm.trans q1
      injection this with this
      rw [← this] at c1
      injection c1 with c1
      exact absurd c1 (by decide)
    have hlt : i < its.toArray.size := by
      have := (List.getElem?_eq_some_iff.mp hu).1
      simpa using this
    refine wpAny_pyNext_enum_itemD (Draws.tuple (A := X.A.in1) (I.ok.hd hc) it a hai its.toArray) he ⟨hit, pT⟩ hlt hne (by simp [hne, hea]) fun y h' tk hy ho hst hT hsz hk => ?_
    have hyu : y = u := by
      have : its.toArray[i]? = some u := by simpa using hu
      rw [this] at hy
      exact (Option.some.inj hy).symm
    subst hyu
    refine ⟨_, rfl, wpAny_letOwnedTupleGo_enum (s := { s with heap := h', toks := tk + 1 }) ho fun h'' he' sb => ?_⟩
    have hT2 : h''.get? s.heap.objs.size = some { cls := .type "tuple", data := .seq #[.int i tk, y] } := (sb.2 _ (Nat.ne_of_gt hel)).trans hT
    have new : ObjOk X.prog X.w (upd H s.heap.objs.size (.tup [.int (i : Nat), x])) h'' s.heap.objs.size (.tup [.int (i : Nat), x]) :=
      ⟨by show 2 ≤ sizeLine; decide, [.int i tk, y], .cons ⟨_, rfl⟩ (.cons ru .nil), ⟨_, hT2, rfl, _, rfl⟩⟩
    have I1 : Inv X pins σ (upd H s.heap.objs.size (.tup [.int (i : Nat), x])) { s with heap := h'', toks := tk + 1 } :=
      I.turnedNew (ch := [e, it]) (fun b ob hb q => (sb.2 b (fun z => hb (by simp [z]))).trans (hk b ob (fun z => hb (by simp [z])) (fun z => hb (by simp [z])) q)) hf (Nat.le_refl _) new
    refine ⟨.ref s.heap.objs.size, _, I1, rfl, ⟨_, x, rfl, I.hok.fresh (Nat.le_refl _), rfl, fun ys hy => by rw [I.tuple_inj hy hq]; exact hx⟩, ⟨⟨y, ?_⟩, hst.1.at fun o q => (sb.2 it (Ne.symm hne)).trans q, hne⟩, fun b hb => ?_⟩
    · have e1 : ((i + 1 : Nat) : Int) = (i : Int) + 1 := by omega
      rw [e1]; exact he'
    · have hb' : b < s.heap.objs.size := by
        have e' : b = e ∨ b = it := by simpa using hb
        rcases e' with z | z
        · rw [z]; exact hel
        · rw [z]; exact hil
      rw [upd_ne (Nat.ne_of_lt hb')]
      exact (hf b hb).1
  done := by
    intro X hP hw hK hc i pins s σ H E I hf st hg
    subst hP hw hK
    obtain ⟨⟨old, he⟩, hit, hne⟩ := st
    obtain ⟨xs, hq, hx⟩ := hg
    obtain ⟨its, rv, p, hz⟩ := I.tuple hq
    have pT : s.heap.IsTuple a its.toArray := p
    obtain ⟨f0, f1, f2, f3, f4, f5⟩ := hf it (by simp)
    have hl := rv.length
    have hT : s.TypeIs (.ref e) "enumerate" := ⟨_, he, rfl⟩
    unfold pyNext
    refine wpAny_bind (wpAny_attempt (wpAny_callSpecial?_slot (name := Str.ofString "__next__") hT F.slot_enumerate_next
      (wpAny_call_entry F.slot_enumerate_next hT F.entry_enumerate_next ?_ (F.args_enumerate_next_1 _))))
    show wpAny _ _ (field (.ref e) 2 >>= _) _ _ _
    refine wpAny_bind (wpAny_field he rfl (x := .ref it) rfl ?_)
    refine wpAny_bind (wpAny_nextOf_tuple_end (A := X.A.in1) (I.ok.hd hc) hit pT (by simp; omega) fun h' x he' hx' => ?_)
    obtain ⟨o, ho, hcc⟩ := hx'
    refine wpAny_bind (wpAny_isInstance (T := "StopIteration") (b := true) ⟨o, ho, hcc⟩ isSubtype_stop ?_)
    exact wpAny_pure ⟨rfl, I.turned (t' := s.toks) (fun b o hb q => he' b o hb q) f0 f1 f3 f4 f5⟩
  self := fun A i s Q E st h => let ⟨⟨_, he⟩, _⟩ := st; wpAny_pyIter_enum he h
def iEnumT (K : PySem.W.Frag) (ta : TA) : TI := fun σ H R => ta σ H fun vs H1 => ∃ a xs, vs = [.ref a] ∧ SqT K H1 a xs ∧ R (IteT K a) H1
theorem pi_enumT {X : Cx} {e : Expr} {ta : TA} {p pos tpos : Pos} {elts : List Expr} {kk : Nat} (hg : Gl X "enumerate") (hm : X.mg "enumerate" = none) (ha : PA X [e] ta) (hs : starEach [e] X.env = [(false, eval e X.env)] := by rfl) :
    PI X (.Tuple elts kk tpos) (.Call (.Name "enumerate" p) [e] [] pos) (iEnumT X.K ta) := by
  refine ⟨fun pins s σ H R I h => ?_⟩
  refine Call_ (ld_blt I hg hm boot_enumerate (PyProof.Rows.callWith_type1 (thn (ha.run pos pins s σ H _ I h) fun us s1 ⟨vs, H1, I1, r1, q1⟩ => ?_) hs rfl))
  obtain ⟨a, xs, ex, hq, q⟩ := q1
  subst ex
  cases r1 with
  | cons r rr =>
    cases rr
    cases r
    obtain ⟨its, rv, p', hz⟩ := I1.tuple hq
    have pT : s1.heap.IsTuple a its.toArray := p'
    refine call_enumerate_tuple pT fun h' he hit hsz hk => wpAny_pyIter_enum he ?_
    have I2 : Inv X pins σ H1 { s1 with heap := h' } := I1.kept (t' := s1.toks) hk
    refine ⟨s1.heap.objs.size + 1, [s1.heap.objs.size + 1, s1.heap.objs.size], _, _, H1, rfl, I2, turn_enumT a (s1.heap.objs.size + 1) s1.heap.objs.size, ⟨⟨.none, he⟩, hit, Nat.succ_ne_self _⟩, fun b hb => ?_, q⟩
    have e' : b = s1.heap.objs.size + 1 ∨ b = s1.heap.objs.size := by simpa using hb
    have hle : s1.heap.objs.size ≤ b := by
      rcases e' with z | z
      · rw [z]; exact Nat.le_add_right _ _
      · rw [z]; exact Nat.le_refl _
    exact I1.fpOk hle (I1.hok.fresh hle)
def iEnuT (f : SE) : SA := fun e t => match f e t with
  | some (.tuple ds, t') => some (enumD ds, t')
  | _ => none
section
variable {X : Cx} {a : Expr} {fa : SE} {p pos : Pos}
theorem ei_enumT {elts : List Expr} {kk : Nat} {tpos : Pos} (ha : EV X a fa) (hm : X.mg "enumerate" = none) (hg : Gl X "enumerate" := by rfl) (hs : starEach [a] X.env = [(false, eval a X.env)] := by rfl) :
    EI X (.Tuple elts kk tpos) (.Call (.Name "enumerate" p) [a] [] pos) (iEnuT fa) true := ⟨pi_weak (pi_enumT hg hm (pa_cons ha.pe pa_nil hs) hs) fun σ H Q h => by
  obtain ⟨g, B, env, t, ds, t', r, e, q⟩ := h
  unfold iEnuT at e
  split at e
  · rename_i ds' t1 ef
    cases e
    refine ⟨g, B, env, t, _, _, r, ef, fun v B1 H1 s1 h1 => ?_⟩
    cases h1 with
    | @tup a xs _ h1 h2 =>
      refine ⟨a, xs, rfl, (s1.bs.sub.tp h1).sq, q B1 H1 _ s1 ⟨fun i d B2 H2 t2 sb b e => ?_, fun i B2 H2 t2 sb b hl => ⟨xs, (b.sub.tp (sb.tp h1)).sq, by
        rw [h2.len]; unfold enumD at hl; rw [List.length_mapIdx] at hl; exact hl⟩⟩⟩
      obtain ⟨e0, ee, rfl⟩ := enumD_get e
      obtain ⟨v, e1, e2⟩ := h2.get ee
      refine ⟨⟨xs, v, (b.sub.tp (sb.tp h1)).sq, e1⟩, fun x H3 y => ?_⟩
      obtain ⟨T, x', rfl, nT, rfl, y⟩ := y
      have := y xs (b.sub.tp (sb.tp h1)).sq
      rw [e1] at this
      cases this
      have s := Step.new (o := .tup [.int (i : Nat), v]) b nT
      exact ⟨_, s, .inr ⟨rfl, T, _, _, rfl, rfl, .inl (.inl upd_same), .cons (.int _) (.cons ((e2.mono sb).mono s.b1) .nil)⟩⟩
  · cases e⟩
end
end PP

namespace PP
open PySem PySem.Spec PyProof.Rows L2
/-! ### texts: split, join, f'..' -/
theorem hd_strs {K : PySem.W.Frag} {g : G} {B : Hp} : ∀ ys : List Str, HdL K g B (ys.map V.str) (ys.map PyData.str)
  | [] => .nil
  | y :: ys => .cons (.str y) (hd_strs ys)
def strsD : List D → Option (List Str)
  | [] => some []
  | .str y :: r => (strsD r).map (y :: ·)
  | _ => none
theorem HdL.strs {K : PySem.W.Frag} {g : G} {B : Hp} : ∀ {ds : List D} {ys : List Str} {vs : List V}, HdL K g B vs ds → strsD ds = some ys → vs = ys.map V.str
  | [], ys, vs, h, e => by cases h; cases e; rfl
  | d :: ds, ys, vs, h, e => by
    cases h with
    | cons h1 h2 =>
      cases d with
      | str y =>
        unfold strsD at e
        cases z : strsD ds with
        | none => rw [z] at e; cases e
        | some zs =>
          rw [z] at e
          cases e
          cases h1
          rw [HdL.strs h2 z]
          rfl
      | _ => cases e
def cSplit (f h : SE) : SE := fun e t => match f e t with
  | some (.str a, t1) => match h e t1 with
    | some (.str b, t2) => if (b.length == 0) = false ∧ a.length ≤ LIM then some (.list ((Txt.split a b).map PyData.str), t2) else none
    | _ => none
  | _ => none
def cJoin (f h : SE) : SE := fun e t => match f e t with
  | some (.str a, t1) => match h e t1 with
    | some (.list ds, t2) => (match strsD ds with
      | some ys => if (ys.map (·.length)).sum + ys.length * a.length ≤ LIM then some (.str (Txt.join a ys), t2) else none
      | none => none)
    | some (.tuple ds, t2) => (match strsD ds with
      | some ys => if (ys.map (·.length)).sum + ys.length * a.length ≤ LIM then some (.str (Txt.join a ys), t2) else none
      | none => none)
    | _ => none
  | _ => none
section
variable {X : Cx} {a b : Expr} {fa fb : SE} {apos pos : Pos}
theorem ev_split (ha : EV X a fa) (hb : EV X b fb) (hs : starEach [b] X.env = [(false, eval b X.env)] := by rfl) (hbase : attributeBase a "split" X.env (eval a X.env) = eval a X.env := by rfl) (hline : (apos.endLine == pos.line) = true := by rfl) :
    EV X (.Call (.Attribute a "split" apos) [b] [] pos) (cSplit fa fb) := ⟨pe_weak (pe_split ha.pe hb.pe hs hbase hline) fun σ H Q h => by
  obtain ⟨g, B, env, t, d, t', r, e, q⟩ := h
  unfold cSplit at e
  split at e
  · rename_i x t1 e1
    split at e
    · rename_i y t2 e2
      split at e
      · rename_i hc
        cases e
        refine ⟨g, B, env, t, _, _, r, e1, fun v B1 H1 s1 h1 => ?_⟩
        cases h1
        refine ⟨⟨x, rfl⟩, g, B1, env, t1, _, _, r.step s1, e2, fun w B2 H2 s2 h2 => ?_⟩
        cases h2
        refine ⟨x, y, rfl, rfl, hc.1, ?_, fun p np => ?_⟩
        · have hl : x.length ≤ 100000 := hc.2
          rw [sizeLine_eq]; omega
        · have s3 := Step.new (o := .lst ((Txt.split x y).map V.str)) s2.bs np
          exact q _ _ _ ((s1.trans r.bs s2).trans r.bs s3) (.lst upd_same (hd_strs _))
      · cases e
    · cases e
  · cases e⟩
theorem ev_join (ha : EV X a fa) (hb : EV X b fb) (hs : starEach [b] X.env = [(false, eval b X.env)] := by rfl) (hbase : attributeBase a "join" X.env (eval a X.env) = eval a X.env := by rfl) (hline : (apos.endLine == pos.line) = true := by rfl) :
    EV X (.Call (.Attribute a "join" apos) [b] [] pos) (cJoin fa fb) := ⟨pe_weak (pe_join ha.pe hb.pe hs hbase hline) fun σ H Q h => by
  obtain ⟨g, B, env, t, d, t', r, e, q⟩ := h
  unfold cJoin at e
  split at e
  · rename_i x t1 e1
    split at e
    · rename_i ds t2 e2
      split at e
      · rename_i ys ey
        split at e
        · rename_i hc
          cases e
          refine ⟨g, B, env, t, _, _, r, e1, fun v B1 H1 s1 h1 => ?_⟩
          cases h1
          refine ⟨⟨x, rfl⟩, g, B1, env, t1, _, _, r.step s1, e2, fun w B2 H2 s2 h2 => ?_⟩
          cases h2 with
          | @lst p xs _ k1 k2 =>
            have e3 := k2.strs ey
            subst e3
            exact ⟨x, p, ys, rfl, rfl, .inl (SqL.of (s2.bs.sub _ _ k1)), Nat.le_trans hc (by decide), q _ B2 H2 (s1.trans r.bs s2) (.str _)⟩
        · cases e
      · cases e
    · rename_i ds t2 e2
      split at e
      · rename_i ys ey
        split at e
        · rename_i hc
          cases e
          refine ⟨g, B, env, t, _, _, r, e1, fun v B1 H1 s1 h1 => ?_⟩
          cases h1
          refine ⟨⟨x, rfl⟩, g, B1, env, t1, _, _, r.step s1, e2, fun w B2 H2 s2 h2 => ?_⟩
          cases h2 with
          | @tup p xs _ k1 k2 =>
            have e3 := k2.strs ey
            subst e3
            exact ⟨x, p, ys, rfl, rfl, .inr (s2.bs.sub.tp k1).sq, Nat.le_trans hc (by decide), q _ B2 H2 (s1.trans r.bs s2) (.str _)⟩
        · cases e
      · cases e
    · cases e
  · cases e⟩
def cFmt (f : SE) : SE := fun e t => match f e t with
  | some (.str y, t1) => if y.length ≤ LIM then some (.str y, t1) else none
  | some (.int i, t1) => if leN i 18446744073709551615 = true then some (.str (toString i), t1) else none
  | _ => none
theorem ev_fmt (ha : EV X a fa) : EV X (.FormattedValue a (-1) none pos) (cFmt fa) := ⟨pe_weak (pe_fmt ha.pe) fun σ H Q h => by
  obtain ⟨g, B, env, t, d, t', r, e, q⟩ := h
  unfold cFmt at e
  split at e
  · rename_i y t1 e1
    split at e
    · rename_i hc
      cases e
      refine ⟨g, B, env, t, _, _, r, e1, fun v B1 H1 s1 h1 => ?_⟩
      cases h1
      exact .inl ⟨y, rfl, by have hl : y.length ≤ 100000 := hc; rw [sizeLine_eq]; omega, q _ B1 H1 s1 (.str _)⟩
    · cases e
  · rename_i i t1 e1
    split at e
    · rename_i hc
      cases e
      refine ⟨g, B, env, t, _, _, r, e1, fun v B1 H1 s1 h1 => ?_⟩
      cases h1
      refine .inr ⟨i, rfl, ?_, q _ B1 H1 s1 (.str _)⟩
      have h1 := leN_ok hc
      by_cases hz : i.natAbs = 0
      · rw [hz]; decide
      · have h2 : i.natAbs.log2 < 64 := (Nat.log2_lt hz).mpr (by omega)
        omega
    · cases e
  · cases e⟩
def jsE : List SE → Str → Env → T → Option (Str × T)
  | [], acc, _, t => some (acc, t)
  | f :: fs, acc, e, t => match f e t with
    | some (.str y, t1) => if (acc ++ y).length ≤ LIM then jsE fs (acc ++ y) e t1 else none
    | _ => none
def cJs (fs : List SE) : SE := fun e t => match jsE fs Str.empty e t with
  | some (y, t1) => some (.str y, t1)
  | none => none
structure EJ (X : Cx) (es : List Expr) (fs : List SE) : Prop where
  pj : PJ X es (fs.map (tD X.K))
theorem ej_nil : EJ X [] [] := ⟨.nil⟩
theorem ej_cons {es : List Expr} {fs : List SE} (ha : EV X a fa) (h : EJ X es fs) : EJ X (a :: es) (fa :: fs) := ⟨.cons ha.pe h.pj⟩
theorem tjs {K : PySem.W.Frag} (σ : Sg) : ∀ (fs : List SE) {g : G} {B : Hp} {env : Env} {t t' : T} {H : Hp} {acc out : Str} (r : Rep K g B H σ env t) (e : jsE fs acc env t = some (out, t')) (Q : Str → Hp → Prop)
    (hQ : ∀ (B' H' : Hp), Step g B H t' B' H' → Q out H'), tJs (fs.map (tD K)) acc σ H Q
  | [], g, B, env, t, t', H, acc, out, r, e, Q, hQ => by
    cases e
    exact hQ B H (.refl r.bs)
  | f :: fs, g, B, env, t, t', H, acc, out, r, e, Q, hQ => by
    unfold jsE at e
    split at e
    · rename_i y t1 e1
      split at e
      · rename_i hc
        refine ⟨g, B, env, t, _, t1, r, e1, fun v B1 H1 s1 hv => ?_⟩
        cases hv
        refine ⟨y, rfl, by have hl : (acc ++ y).length ≤ 100000 := hc; rw [sizeLine_eq]; omega, ?_⟩
        exact tjs σ fs (r.step s1) e Q fun B2 H2 s2 => hQ B2 H2 (s1.trans r.bs s2)
      · cases e
    · cases e
theorem ev_joined {v1 v2 : Expr} {rest : List Expr} {fs : List SE} (h : EJ X (v1 :: v2 :: rest) fs) : EV X (.JoinedStr (v1 :: v2 :: rest) pos) (cJs fs) := ⟨pe_weak (pe_joined h.pj) fun σ H Q h => by
  obtain ⟨g, B, env, t, d, t', r, e, q⟩ := h
  unfold cJs at e
  split at e
  · rename_i y t1 e1
    cases e
    exact tjs σ fs r e1 _ fun B1 H1 s1 => q _ B1 H1 s1 (.str _)
  · cases e⟩
end
end PP

namespace PP
open PySem PySem.Spec PyProof.Rows L2
/-! ### an item of an own list; calls with such arguments -/
def cOwnIx (i : Nat) (f : SE) : SE := fun e t => match f e t with
  | some (.int z, t1) => (match e[i]? with
    | some (some (.list ds)) => (match atI ds z with
      | some d => some (d, t1)
      | none => none)
    | _ => none)
  | _ => none
section
variable {X : Cx} {o : List Nat} {b : Expr} {fb : SE} {p pos : Pos} {x : Str}
theorem evs_ownix (i : Nat) (hb : EVS X o b fb) (ho : i ∈ o := by decide) (hs : PlainIx b := by intro _ _; rfl) (hN : X.N[i]? = some x := by rfl) (hv : Vis X.env.scope x := by first | exact Or.inl rfl | exact Or.inr (Or.inl rfl) | exact Or.inr (Or.inr rfl)) (hd : (x == ("__debug__" : Str)) = false := by decide) (hcd : (x == ("__classdict__" : Str)) = false := by decide) :
    EVS X o (.Subscript (.Name x p) b pos) (cOwnIx i fb) := ⟨pe_weak (pe_ix ix_seq (pe_var hN hv hd hcd) hb.pe hs) fun σ H Q h => by
  obtain ⟨g, fg, B, env, t, d, t', r, e, q⟩ := h
  unfold cOwnIx at e
  split at e
  · rename_i z t1 eb
    split at e
    · rename_i ds ei
      split at e
      · rename_i d1 ed
        cases e
        obtain ⟨a, sa, _⟩ := r.own i _ ho ei
        refine ⟨.ref a, sa, g, fg, B, env, t, _, _, r, eb, fun v B1 H1 r1 sb hv1 => ?_⟩
        cases hv1
        obtain ⟨a', sa', _, _, _, ow⟩ := r1.own i _ ho ei
        rw [sa] at sa'
        cases sa'
        cases ow with
        | lst h1 h2 =>
          obtain ⟨w, e1, e2⟩ := h2.atI ed
          exact .inl ⟨_, _, _, w, rfl, rfl, SqL.of h1, e1, q _ _ _ r1 sb e2⟩
      · cases e
    · cases e
  · cases e⟩
structure EAW (X : Cx) (o : List Nat) (es : List Expr) (f : SA) : Prop where
  pa : PA X es (fun (σ : Sg) H Q => ∃ g fg B env t ds t', RepS X.K g fg o B H σ env t ∧ f env t = some (ds, t') ∧ ∀ vs B' H', RepS X.K g fg o B' H' σ env t' → Sub B B' → HdL X.K g B' vs ds → Q vs H')
theorem eaw_nil : EAW X o [] aNil := ⟨pa_weak pa_nil fun σ H Q h => by
  obtain ⟨g, fg, B, env, t, d, t', r, e, q⟩ := h
  cases e
  exact q [] B H r (.refl _) .nil⟩
theorem eaw_cons {a : Expr} {es : List Expr} {fa : SE} {fs : SA} (ha : EVS X o a fa) (hr : EAW X o es fs) (hs : starEach (a :: es) X.env = (false, eval a X.env) :: starEach es X.env := by rfl) : EAW X o (a :: es) (aCons fa fs) :=
  ⟨pa_weak (pa_cons ha.pe hr.pa hs) fun σ H Q h => by
  obtain ⟨g, fg, B, env, t, d, t', r, e, q⟩ := h
  unfold aCons at e
  split at e
  · rename_i y t1 e1
    split at e
    · rename_i ys t2 e2
      cases e
      refine ⟨g, fg, B, env, t, _, _, r, e1, fun v B1 H1 r1 s1 h1 => ?_⟩
      refine ⟨g, fg, B1, env, t1, _, _, r1, e2, fun vs B2 H2 r2 s2 h2 => ?_⟩
      exact q _ B2 H2 r2 (s1.trans s2) (.cons (h1.mono s2) h2)
    · cases e
  · cases e⟩
theorem evs_call {k n : Nat} {φ : SF} {a : Expr} {es : List Expr} {f : SA} (F : FnAt X.prog X.w X.K X.mg X.base k x n φ) (hr : Room k X.A) (ha : EAW X o (a :: es) f)
    (hn : ∀ (e : Env) (t : T) (xs : List D) (t' : T), f e t = some (xs, t') → xs.length = n) (hg : Gl X x := by rfl) (hdb : (x == ("__debug__" : Str)) = false := by decide)
    (he : starEach (a :: es) X.env = (false, eval a X.env) :: starEach es X.env := by rfl) (hpl : (backTo pos (starEach es X.env)).any (·.1) = false := by rfl) :
    EVS X o (.Call (.Name x p) (a :: es) [] pos) (cCall φ f) := by
  obtain ⟨fa', fd, ps, h1, h2, h3, h4⟩ := F.ex
  exact ⟨pe_weak (pe_call h1 hr hg h2 h3 h4 .nil (E := E0) pass0 ha.pa hdb he hpl) fun σ H Q h => by
    obtain ⟨g, fg, B, env, t, d, t', r, e, q⟩ := h
    unfold cCall at e
    split at e
    · rename_i xs t1 e1
      refine ⟨g, fg, B, env, t, _, _, r, e1, fun vs B1 H1 r1 s1 hv => ?_⟩
      refine ⟨g, B1, xs, t1, d, t', ?_, r1.bs, by rw [List.append_nil]; exact hv, e, fun v B2 H2 s2 hv2 => q v B2 H2 (r1.step s2) (s1.trans s2.b1) hv2⟩
      rw [List.append_nil, hv.len]
      exact hn _ _ _ _ e1
    · cases e⟩
end
end PP

namespace PP
open PySem PySem.Spec PyProof.Rows L2
/-! ### sorted(set(e)), e a list of whole numbers -/
section
variable {P : Program} {w : World} {A : Around} {E : Value → Shared → Prop} {s : Shared}
/-- a set as it is when it is new -/
abbrev nset (w : World) : Obj := { cls := .type "set", dict := none, data := .set #[] 0 (.fresh 0 0 (!w.params.followText "set-order")) }
/-- the answer of a set's start: its members are ns, all else stands -/
abbrev SetMade (w : World) (E : Value → Shared → Prop) (s : Shared) (ns : List Int) : Result → Shared → Prop :=
  wants (fun r s₂ => r = .none ∧ ∃ h' tk c, s₂ = { s with heap := h', toks := tk } ∧ SetR w h' s.heap.objs.size (fun j => decide (j ∈ ns)) c ∧ c ≤ ns.length ∧ ∀ b o, s.heap.get? b = some o → h'.get? b = some o) E
/-- the loop that fills a new set from a list of ints -/
theorem set_fill_ints {A' : Around} {l : Addr} {items : Array Value} (ns : List Int) (hh : A'.in1.handled = none) (hl : s.heap.IsList l items) (hit : IntsAre items.toList ns) (hb : ns.length + 1 < scanBound) {R : Result → Shared → Prop}
    (h : ∀ (s' : Shared) (c : Nat), s'.gens = s.gens → s'.drawn = s.drawn → s'.os = s.os → SetR w s'.heap s.heap.objs.size (fun j => decide (j ∈ ns)) c → c ≤ ns.length → (∀ b o, s.heap.get? b = some o → s'.heap.get? b = some o) → R (.ok (.ret .none)) s') :
    codeAny (model P w) A' (.builtin "set.update.loop" ⟨[.ref s.heap.objs.size, .ref (s.heap.push (nset w)).objs.size], []⟩) R { s with heap := (s.heap.push (nset w)).push { cls := .type "list_iterator", data := .fields #[.ref l, .int 0 0] } } := by
  have hlen : items.size = ns.length := by
    have := IntsAre.length hit
    rwa [Array.length_toList] at this
  obtain ⟨o, ho, hc, hd⟩ := hl
  have hlt := Heap.lt_size ho
  have h1 : (s.heap.push (nset w)).IsList l items := ⟨o, Heap.get?_push_of_some _ ho, hc, hd⟩
  have sz : (s.heap.push (nset w)).objs.size = s.heap.objs.size + 1 := Heap.size_push ..
  have nI : l ≠ (s.heap.push (nset w)).objs.size := by
    rw [sz]
    exact Nat.ne_of_lt (Nat.lt_succ_of_lt hlt)
  have nS : s.heap.objs.size ∉ [(s.heap.push (nset w)).objs.size, l] := by
    simp only [List.mem_cons, List.not_mem_nil, or_false, not_or]
    rw [sz]
    exact ⟨Nat.ne_of_lt (Nat.lt_succ_self _), Nat.ne_of_gt hlt⟩
  have val : ∀ (i : Nat) (v : Value), items[i]? = some v → ∃ k t, ns[i]? = some k ∧ v = .int k t := fun i v hv => by
    have hi : i < ns.length := by rw [← hlen]; exact (Array.getElem?_eq_some_iff.mp hv).1
    obtain ⟨t, e⟩ := PyProof.Rows.IntsAre.int_at hit i v (by rw [Array.getElem?_toList]; exact hv)
    exact ⟨ns[i], t, List.getElem?_eq_getElem hi, by rw [e, List.getD_eq_getElem?_getD, List.getElem?_eq_getElem hi]; rfl⟩
  have new : ((s.heap.push (nset w)).push { cls := .type "list_iterator", data := .fields #[.ref l, .int 0 0] }).get? s.heap.objs.size = some (nset w) := Heap.get?_push_of_some _ (Heap.get?_push_size _ rfl)
  refine set_update_ints ((Walks.list hh _ l nI items).toS) s.heap.objs.size nS ns hlen hb val items.size 0 _ (Nat.sub_zero _) (Nat.zero_le _) ⟨⟨_, Heap.get?_push_size _ rfl, rfl, rfl⟩, h1.push _⟩ ⟨0, Nat.le_refl 0, setR_new_at new⟩ fun s' c hm hc' hS => ?_
  refine h s' c hm.gens hm.drawn hm.os hS (by omega) fun b o e => hm.heap b o ?_ (Heap.get?_push_of_some _ (Heap.get?_push_of_some _ e))
  have hb0 := Heap.lt_size e
  simp only [List.mem_cons, List.not_mem_nil, or_false, not_or]
  rw [sz]
  exact ⟨Nat.ne_of_lt hb0, Nat.ne_of_lt (Nat.lt_succ_of_lt hb0)⟩
set_option maxRecDepth 100000 in
set_option maxHeartbeats 3200000 in
/-- a new set, filled from a list of ints -/
theorem set_init_ints {l : Addr} {items : Array Value} (ns : List Int) (hh : A.handled = none) (hl : s.heap.IsList l items) (hit : IntsAre items.toList ns) (hb : ns.length + 1 < scanBound) :
    wpAny (model P w) A.in1.in1 (Builtin.«set.__init__» { pos := [Value.ref s.heap.objs.size] ++ { pos := [Value.ref l] : Args }.pos })
      (fun fin s' => match fin with
        | .done f => SetMade w E s ns (.ok f) s'
        | .again c' => c'.quiet = true ∧ codeAny (model P w) A.in1 c' (SetMade w E s ns) s')
      (fun e s' => SetMade w E s ns (.error e) s') { s with heap := s.heap.push (nset w) } := by
  have hl0 := hl
  obtain ⟨⟨ocls, odict, odata, oslots⟩, hol, hcl, nl, hdl⟩ := hl
  simp only at hcl hdl
  subst hcl hdl
  have hol' : (s.heap.push (nset w)).get? l = some { cls := .type "list", dict := odict, data := .seq items nl, slots := oslots } := Heap.get?_push_of_some _ hol
  have h1 : (s.heap.push (nset w)).IsList l items := ⟨_, hol', rfl, nl, rfl⟩
  have := F.sub_list_set
  have := F.sub_list_frozenset
  have : (Value.type "list" == Value.type "dict") = false := by decide
  unfold Builtin.«set.__init__» noKeywords Builtin.Frozenset.updateFrom
  generalize hPI : pyIter = PI
  wp_walk
  subst hPI
  refine wpAny_pyIter_list h1 (wpAny_bind (wpAny_runValue (set_fill_ints ns (by simp [hh]) hl0 hit hb fun s' c g d o hS hc hk => ?_)))
  obtain ⟨h', g', d', tk', os'⟩ := s'
  simp only at g d o
  subst g d o
  show wpAny _ _ _ _ _ _
  refine wpAny_pure ?_
  show wpAny _ _ (ret Value.none) _ _ _
  exact wpAny_pure ⟨rfl, h', tk', c, rfl, hS, hc, hk⟩
set_option maxRecDepth 100000 in
set_option maxHeartbeats 3200000 in
theorem call_set_ints {l : Addr} {items : Array Value} (ns : List Int) {Q : Value → Shared → Prop} (hh : A.handled = none) (hl : s.heap.IsList l items) (hit : IntsAre items.toList ns) (hb : ns.length + 1 < scanBound)
    (h : ∀ (h' : Heap) (tk c : Nat), SetR w h' s.heap.objs.size (fun j => decide (j ∈ ns)) c → c ≤ ns.length → (∀ b o, s.heap.get? b = some o → h'.get? b = some o) → Q (.ref s.heap.objs.size) { s with heap := h', toks := tk }) :
    wpAny (model P w) A (call (.type "set") [.ref l]) Q E s := by
  obtain ⟨c, tl, hmro⟩ := F.called_set.mro
  have := F.called_set.made
  have := F.called_set.sub
  have := F.called_set.notType
  have := F.called_set.canCreate
  have := F.typeCall_set_1 (.ref l)
  have := F.called_set.init.lookup
  have := F.called_set.init.bind (.ref s.heap.objs.size)
  have old : ∀ (b : Addr) (o : Obj), s.heap.get? b = some o → (s.heap.push (nset w)).get? b = some o := fun b o e => Heap.get?_push_of_some _ e
  have new : (s.heap.push (nset w)).get? s.heap.objs.size = some (nset w) := Heap.get?_push_size _ rfl
  have ty : Shared.TypeIs { s with heap := s.heap.push (nset w) } (.ref s.heap.objs.size) "set" := ⟨_, new, rfl⟩
  refine wpAny_call (codeAny_of_tree ?_)
  show wpAny _ _ (callAny (.type "set") _) _ _ _
  refine wpAny_pure ⟨Code.quiet_builtin _ (by decide +kernel), codeAny_builtin F.entry_type_call ?_⟩
  rw [Around.under_plain (weight_type_call_type "set" [.ref l] []) rfl]
  repeat (any_goals (first | assumption | wp_step))
  refine codeAny_mono (code_set_led1 (.ref l) (E := E) (Q₁ := fun obj s₁ => obj = .ref s.heap.objs.size ∧ s₁ = { s with heap := s.heap.push (nset w) }) ⟨rfl, rfl⟩) fun r s₁ hr => ?_
  cases r with
  | error e => exact hr
  | ok fl =>
    cases fl with
    | ret obj =>
      obtain ⟨rfl, rfl⟩ := hr
      repeat (any_goals (first | assumption | wp_step))
      refine codeAny_mono (codeAny_call_builtin (R := SetMade w E s ns) F.called_set.init.plain F.entry_set_init (check_set_init_1 ty ?_)) fun r₂ s₂ hr₂ => ?_
      · exact set_init_ints ns hh hl hit hb
      · cases r₂ with
        | error e => exact hr₂
        | ok fl₂ =>
          cases fl₂ with
          | ret r =>
            obtain ⟨rfl, h', tk, c', rfl, hS', hc', hk'⟩ := hr₂
            repeat (any_goals (first | assumption | wp_step))
            exact h _ _ _ hS' hc' hk'
          | _ => exact hr₂.elim
    | _ => exact hr.elim
end
def insI (k : Int) : List Int → List Int
  | [] => [k]
  | x :: l => if k < x then k :: x :: l else if k = x then x :: l else x :: insI k l
/-- the members, ascending -/
def srt (ns : List Int) : List Int := ns.foldr insI []
theorem insI_mem {k j : Int} : ∀ l : List Int, j ∈ insI k l ↔ j = k ∨ j ∈ l
  | [] => by simp [insI]
  | x :: l => by
    unfold insI
    split
    · simp
    · split
      · rename_i h
        subst h
        simp
      · simp only [List.mem_cons, insI_mem l]
        constructor
        · rintro (h | h | h) <;> simp [h]
        · rintro (h | h | h) <;> simp [h]
theorem insI_asc {k : Int} : ∀ l : List Int, l.Pairwise (· < ·) → (insI k l).Pairwise (· < ·)
  | [], _ => by simp [insI]
  | x :: l, h => by
    obtain ⟨h1, h2⟩ := List.pairwise_cons.mp h
    unfold insI
    split
    · rename_i c
      exact List.pairwise_cons.mpr ⟨fun y hy => by
        rcases List.mem_cons.mp hy with rfl | hy
        · exact c
        · exact Int.lt_trans c (h1 y hy), h⟩
    · split
      · exact h
      · exact List.pairwise_cons.mpr ⟨fun y hy => by
          rcases (insI_mem l).mp hy with rfl | hy
          · omega
          · exact h1 y hy, insI_asc l h2⟩
theorem srt_mem {j : Int} : ∀ ns : List Int, j ∈ srt ns ↔ j ∈ ns
  | [] => .rfl
  | x :: l => by
    show j ∈ insI x (srt l) ↔ _
    rw [insI_mem, srt_mem l, List.mem_cons]
theorem srt_asc : ∀ ns : List Int, (srt ns).Pairwise (· < ·)
  | [] => .nil
  | _ :: l => insI_asc _ (srt_asc l)
theorem asc_ext : ∀ a b : List Int, a.Pairwise (· < ·) → b.Pairwise (· < ·) → (∀ k, k ∈ a ↔ k ∈ b) → a = b
  | [], [], _, _, _ => rfl
  | [], y :: b, _, _, h => absurd ((h y).mpr List.mem_cons_self) List.not_mem_nil
  | x :: a, [], _, _, h => absurd ((h x).mp List.mem_cons_self) List.not_mem_nil
  | x :: a, y :: b, ha, hb, h => by
    obtain ⟨a1, a2⟩ := List.pairwise_cons.mp ha
    obtain ⟨b1, b2⟩ := List.pairwise_cons.mp hb
    have e : x = y := by
      rcases List.mem_cons.mp ((h x).mp List.mem_cons_self) with e | e
      · exact e
      · rcases List.mem_cons.mp ((h y).mpr List.mem_cons_self) with e2 | e2
        · exact e2.symm
        · have := b1 x e
          have := a1 y e2
          omega
    subst e
    rw [asc_ext a b a2 b2 fun k => ?_]
    constructor
    · intro hk
      rcases List.mem_cons.mp ((h k).mp (List.mem_cons_of_mem _ hk)) with e | e
      · have := a1 k hk
        omega
      · exact e
    · intro hk
      rcases List.mem_cons.mp ((h k).mpr (List.mem_cons_of_mem _ hk)) with e | e
      · have := b1 k hk
        omega
      · exact e
def intsD : List D → Option (List Int)
  | [] => some []
  | .int i :: r => (intsD r).map (i :: ·)
  | _ => none
theorem HdL.ints {K : PySem.W.Frag} {g : G} {B : Hp} : ∀ {ds : List D} {ns : List Int} {vs : List V}, HdL K g B vs ds → intsD ds = some ns → vs = ns.map V.int
  | [], ns, vs, h, e => by cases h; cases e; rfl
  | d :: ds, ns, vs, h, e => by
    cases h with
    | cons h1 h2 =>
      cases d <;> first | (cases e; done) | skip
      rename_i b
      cases h1
      unfold intsD at e
      cases q : intsD ds with
      | none => rw [q] at e; cases e
      | some cs => rw [q] at e; cases e; rw [HdL.ints h2 q]; rfl
theorem hdl_ints {K : PySem.W.Frag} {g : G} {B : Hp} : ∀ ns : List Int, HdL K g B (ns.map V.int) (ns.map PyData.int)
  | [] => .nil
  | n :: ns => .cons (.int n) (hdl_ints ns)
def rSetI (w : World) : List V → Hp → VK → Prop := fun vs H Q => ∃ (l : Addr) (ns : List Int), vs = [.ref l] ∧ H l = some (.lst (ns.map V.int)) ∧ ns.length ≤ 60 ∧
  ∀ (a : Addr) (S : Int → Bool) (n : Nat), H a = none → (∀ k, S k = true ↔ k ∈ ns) → n ≤ ns.length → Q (.ref a) (upd H a (SetO w a S n))
def cSrt (f : SE) : SE := fun e t => match f e t with
  | some (.list ds, t') => (match intsD ds with
    | some ns => if ns.length ≤ 60 then some (.list ((srt ns).map .int), t') else none
    | none => none)
  | _ => none
section
variable {X : Cx} {a : Expr} {fa : SE} {p p2 pos pos2 : Pos}
theorem cr_setI (hc : X.calm = true) : CallR X (.type "set") (rSetI X.w) := by
  intro pins s σ H vs us Q I r h
  obtain ⟨l, ns, rfl, hl, hn, q⟩ := h
  rw [Vals.ref1 r]
  obtain ⟨its, rv, pt, hz⟩ := I.list (SqL.of hl)
  refine call_set_ints ns (I.ok.hd hc) pt.isList (by simpa using ints_of_vals rv) (by unfold scanBound; omega) fun h' tk c R1 hcn k => ?_
  exact ⟨.ref _, upd H s.heap.objs.size (SetO X.w s.heap.objs.size (fun j => decide (j ∈ ns)) c), I.laid (t' := tk) k (Nat.le_refl _) (setO_new R1), rfl, q _ _ _ (I.hok.fresh (Nat.le_refl _)) (fun k => decide_eq_true_iff) hcn⟩
theorem ef_sortset (ha : EV X a fa) (hc : X.calm = true) (hm : X.mg "sorted" = none) (hm2 : X.mg "set" = none) (hg : Gl X "sorted" := by rfl) (hg2 : Gl X "set" := by rfl) (hs : starEach [a] X.env = (false, eval a X.env) :: starEach [] X.env := by rfl)
    (hs2 : starEach [.Call (.Name "set" p2) [a] [] pos2] X.env = (false, eval (.Call (.Name "set" p2) [a] [] pos2) X.env) :: starEach [] X.env := by rfl) :
    EF X (.Call (.Name "sorted" p) [.Call (.Name "set" p2) [a] [] pos2] [] pos) (cSrt fa) :=
  ⟨pe_weak (pe_callB (cr_sortedSet hc) hg hm (by decide +kernel) (pa_cons (pe_callTy (cr_setI hc) hg2 hm2 (by decide +kernel) (ea_cons ha ea_nil hs).pa (by decide) (by decide) hs rfl) pa_nil hs2) (by decide) (by decide) hs2 rfl) fun σ H Q h => by
    obtain ⟨g, B, env, t, d, t', rp, e, q⟩ := h
    unfold cSrt at e
    split at e
    · rename_i ds t1 e1
      split at e
      · rename_i ns e2
        split at e
        · rename_i hl
          cases e
          show tDA X.K (aCons fa aNil) σ H fun vs H1 => rSetI X.w vs H1 fun x H2 => rSortedSet X.w [x] H2 Q
          refine ⟨g, B, env, t, [.list ds], _, rp, by unfold aCons; rw [e1]; rfl, fun vs B1 H1 s1 h1 => ?_⟩
          obtain ⟨v, rfl, hv⟩ := h1.one
          cases hv with
          | lst h1 h2 =>
            have := h2.ints e2
            subst this
            refine ⟨_, ns, rfl, s1.bs.sub _ _ h1, hl, fun b S n hb hS hn => ⟨b, S, n, rfl, upd_same, by omega, fun ns' p asc mem len hp => ?_⟩⟩
            have en : ns' = srt ns := asc_ext _ _ asc (srt_asc ns) fun k => by rw [mem, hS, srt_mem]
            subst en
            have s2 := Step.hid (o := SetO X.w b S n) s1.bs hb
            have s12 := s1.trans rp.bs s2
            exact s2.bs.lstF (K := X.K) (hdl_ints _) hp fun p B' H' s3 k1 k2 k3 => q p B' H' (s12.trans rp.bs s3) (s12.freshBack rp.bs k1) k2 k3
        · cases e
      · cases e
    · cases e⟩
end
end PP

namespace PP
open PySem PySem.Spec PyProof.Rows L2

/-! ### dicts whose keys are tuples, nested: what they hold -/
mutual
theorem nk_hash (w w' : World) : ∀ (d : D) (k : NestedKey), nkOf d = some k → k.hash w = k.hash w'
  | .none, _, h => by cases h; rfl
  | .bool b, _, h => by cases h; rfl
  | .int i, _, h => by cases h; rfl
  | .str _, _, h => by simp [nkOf] at h
  | .list _, _, h => by simp [nkOf] at h
  | .dict _, _, h => by simp [nkOf] at h
  | .tuple ds, k, h => by
    unfold nkOf at h
    obtain ⟨ks, h1, rfl⟩ := Option.map_eq_some_iff.mp h
    show reduceHash (Builtin.Tuple.tupleHashOf (NestedKey.hashes w ks)) = reduceHash (Builtin.Tuple.tupleHashOf (NestedKey.hashes w' ks))
    rw [nk_hashes w w' ds ks h1]
theorem nk_hashes (w w' : World) : ∀ (ds : List D) (ks : List NestedKey), nkL ds = some ks → NestedKey.hashes w ks = NestedKey.hashes w' ks
  | [], _, h => by cases h; rfl
  | d :: ds, ks, h => by
    unfold nkL at h
    split at h
    · rename_i k ek
      obtain ⟨r, h1, rfl⟩ := Option.map_eq_some_iff.mp h
      show NestedKey.hash w k :: NestedKey.hashes w r = NestedKey.hash w' k :: NestedKey.hashes w' r
      rw [nk_hash w w' d k ek, nk_hashes w w' ds r h1]
    · cases h
end
theorem nkD_of {d : D} {k : NestedKey} (h : nkD d = some k) : nkOf d = some k ∧ k.depth ≤ 8 ∧ ∃ ds, d = .tuple ds := by
  unfold nkD at h
  split at h
  · rename_i ds
    split at h
    · rename_i ks e
      split at h
      · rename_i hb
        cases h
        refine ⟨by unfold nkOf; rw [e]; rfl, ?_, ds, rfl⟩
        have := Nat.le_of_ble_eq_true hb
        show NestedKey.depthAll ks + 1 ≤ 8
        omega
      · cases h
    · cases h
  · cases h
section
variable {X : Cx} {pins : List (Addr × Obj)} {σ : L2.St} {H B : Hp} {s : Shared} {g : G}
mutual
theorem Hd.nk (I : Inv X pins σ H s) (sb : Sub B H) : ∀ (d : D) (v : V) (k : NestedKey) (u : Value), Hd X.K g B v d → nkOf d = some k → RelV v u → NestedIs s.heap k u
  | .none, v, k, u, h, e, r => by cases e; cases h; cases r; exact .none
  | .bool b, v, k, u, h, e, r => by cases e; cases h; cases r; exact .bool rfl
  | .int i, v, k, u, h, e, r => by cases e; cases h; obtain ⟨t, rfl⟩ := r; exact .int _ _
  | .str _, v, k, u, h, e, r => by simp [nkOf] at e
  | .list _, v, k, u, h, e, r => by simp [nkOf] at e
  | .dict _, v, k, u, h, e, r => by simp [nkOf] at e
  | .tuple ds, v, k, u, h, e, r => by
    unfold nkOf at e
    obtain ⟨ks, h1, rfl⟩ := Option.map_eq_some_iff.mp e
    cases h with
    | tup h2 h3 =>
      cases r
      obtain ⟨its, rv, ⟨o, e1, e2, n, e3⟩, hz⟩ := I.tuple (sb.sqt h2.sq)
      exact .tup e1 e2 e3 (by simpa using HdL.nk I sb ds _ ks its h3 h1 rv)
theorem HdL.nk (I : Inv X pins σ H s) (sb : Sub B H) : ∀ (ds : List D) (vs : List V) (ks : List NestedKey) (us : List Value), HdL X.K g B vs ds → nkL ds = some ks → Vals vs us → NestedAll s.heap ks us
  | [], vs, ks, us, h, e, r => by cases e; cases h; cases r; exact .nil
  | d :: ds, vs, ks, us, h, e, r => by
    unfold nkL at e
    split at e
    · rename_i k ek
      obtain ⟨ks', h1, rfl⟩ := Option.map_eq_some_iff.mp e
      cases h with
      | cons h2 h3 =>
        cases r with
        | cons r1 r2 => exact .cons (Hd.nk I sb d _ k _ h2 ek r1) (HdL.nk I sb ds _ ks' _ h3 h1 r2)
    · cases e
end
end
inductive DX (K : PySem.W.Frag) (g : G) (B : Hp) : List NK → List (D × D) → Prop
  | nil : DX K g B [] []
  | cons {k : NestedKey} {b : Addr} {v : V} {dk d : D} {ks : List NK} {ps : List (D × D)} : Hd K g B (.ref b) dk → nkD dk = some k → Hd K g B v d → DX K g B ks ps → DX K g B ((k, b, v) :: ks) ((dk, d) :: ps)
def valN (ks : List NK) (k : NestedKey) : Option V := (ks.find? fun x => decide (x.1 = k)).map (·.2.2)
def getN (ps : List (D × D)) (k : NestedKey) : Option D := (ps.find? fun p => decide (nkD p.1 = some k)).map (·.2)
def putNK (ks : List NK) (k : NestedKey) (b : Addr) (v : V) : List NK := if (valN ks k).isSome = true then ks.map (fun x => if x.1 = k then (x.1, x.2.1, v) else x) else ks ++ [(k, b, v)]
def putN (ps : List (D × D)) (kd : D) (k : NestedKey) (d : D) : List (D × D) := if (getN ps k).isSome = true then ps.map (fun p => if nkD p.1 = some k then (p.1, d) else p) else ps ++ [(kd, d)]
section
variable {K : PySem.W.Frag} {g : G} {B H : Hp}
theorem DX.of : ∀ {ks : List NK} {dk dv : List D}, HdL K g B (ks.map fun x => .ref x.2.1) dk → HdL K g B (ks.map (·.2.2)) dv → dk.map nkD = ks.map (fun x => some x.1) → DX K g B ks (dk.zip dv)
  | [], _, _, h, h', _ => by cases h; cases h'; exact .nil
  | (k, b, v) :: ks, _, _, h, h', e => by
    cases h with
    | cons a1 a2 =>
      cases h' with
      | cons b1 b2 =>
        rw [List.map_cons, List.map_cons] at e
        injection e with e1 e2
        exact .cons a1 e1 b1 (DX.of a2 b2 e2)
theorem DX.to {ks : List NK} {ps : List (D × D)} (h : DX K g B ks ps) : ∃ dk dv, HdL K g B (ks.map fun x => .ref x.2.1) dk ∧ HdL K g B (ks.map (·.2.2)) dv ∧ dk.map nkD = ks.map (fun x => some x.1) ∧ ps = dk.zip dv := by
  induction h with
  | nil => exact ⟨[], [], .nil, .nil, rfl, rfl⟩
  | @cons k b v dk d ks ps h1 h2 h3 _ ih =>
    obtain ⟨es, ds, k1, k2, k3, k4⟩ := ih
    exact ⟨dk :: es, d :: ds, .cons h1 k1, .cons h3 k2, by rw [List.map_cons, List.map_cons, k3, h2], by rw [k4]; rfl⟩
theorem DX.len {ks : List NK} {ps : List (D × D)} (h : DX K g B ks ps) : ks.length = ps.length := by
  induction h with
  | nil => rfl
  | cons _ _ _ _ ih => simp [ih]
theorem DX.mono {B' : Hp} {ks : List NK} {ps : List (D × D)} (h : DX K g B ks ps) (s : Sub B B') : DX K g B' ks ps := by
  induction h with
  | nil => exact .nil
  | cons h1 h2 h3 _ ih => exact .cons (h1.mono s) h2 (h3.mono s) ih
theorem valN_cons {x : NK} {ks : List NK} {k : NestedKey} : valN (x :: ks) k = if x.1 = k then some x.2.2 else valN ks k := by
  unfold valN
  rw [List.find?_cons]
  by_cases e : x.1 = k
  · simp [e]
  · simp [e]
theorem getN_cons {p : D × D} {ps : List (D × D)} {k : NestedKey} : getN (p :: ps) k = if nkD p.1 = some k then some p.2 else getN ps k := by
  unfold getN
  rw [List.find?_cons]
  by_cases e : nkD p.1 = some k
  · simp [e]
  · simp [e]
theorem DX.get {ks : List NK} {ps : List (D × D)} (h : DX K g B ks ps) (k : NestedKey) : (valN ks k = none ∧ getN ps k = none) ∨ ∃ v d, valN ks k = some v ∧ getN ps k = some d ∧ Hd K g B v d := by
  induction h with
  | nil => exact .inl ⟨rfl, rfl⟩
  | @cons j b v dk d ks ps h1 h2 h3 _ ih =>
    rw [valN_cons, getN_cons]
    by_cases e : j = k
    · exact .inr ⟨v, d, by rw [if_pos e], by rw [if_pos (by rw [h2, e])], h3⟩
    · rw [if_neg e, if_neg (by rw [h2]; intro z; exact e (Option.some.inj z))]
      exact ih
theorem DX.isSome {ks : List NK} {ps : List (D × D)} (h : DX K g B ks ps) (k : NestedKey) : (valN ks k).isSome = (getN ps k).isSome := by
  rcases h.get k with ⟨a, b⟩ | ⟨v, d, a, b, _⟩ <;> rw [a, b] <;> rfl
theorem DX.app {k : NestedKey} {b : Addr} {v : V} {kd d : D} {ks : List NK} {ps : List (D × D)} (h : DX K g B ks ps) (hk : Hd K g B (.ref b) kd) (e : nkD kd = some k) (hv : Hd K g B v d) : DX K g B (ks ++ [(k, b, v)]) (ps ++ [(kd, d)]) := by
  induction h with
  | nil => exact .cons hk e hv .nil
  | cons h1 h2 h3 _ ih => exact .cons h1 h2 h3 ih
theorem DX.upd {k : NestedKey} {v : V} {d : D} {ks : List NK} {ps : List (D × D)} (h : DX K g B ks ps) (hv : Hd K g B v d) : DX K g B (ks.map fun x => if x.1 = k then (x.1, x.2.1, v) else x) (ps.map fun p => if nkD p.1 = some k then (p.1, d) else p) := by
  induction h with
  | nil => exact .nil
  | @cons j b u dk c ks ps h1 h2 h3 _ ih =>
    rw [List.map_cons, List.map_cons]
    by_cases e : j = k
    · rw [if_pos e, if_pos (by rw [h2, e])]
      exact .cons h1 h2 hv ih
    · rw [if_neg e, if_neg (by rw [h2]; intro z; exact e (Option.some.inj z))]
      exact .cons h1 h2 h3 ih
theorem DX.put {k : NestedKey} {b : Addr} {v : V} {kd d : D} {ks : List NK} {ps : List (D × D)} (h : DX K g B ks ps) (hk : Hd K g B (.ref b) kd) (e : nkD kd = some k) (hv : Hd K g B v d) : DX K g B (putNK ks k b v) (putN ps kd k d) := by
  unfold putNK putN
  rw [h.isSome k]
  split
  · exact h.upd hv
  · exact h.app hk e hv
theorem Hd.ofDX {a : Addr} {ob : Obj} {ks : List NK} {ps : List (D × D)} (e : B a = some (obO a ob)) (dp : DxP a ob ks) (h : DX K g B ks ps) : Hd K g B (.ref a) (.dict (mkP :: ps)) := by
  obtain ⟨dk, dv, h1, h2, h3, rfl⟩ := h.to
  exact .dx e dp h1 h2 h3
theorem OwnAt.ofDX {a : Addr} {ob : Obj} {ks : List NK} {ps : List (D × D)} (e : H a = some (obO a ob)) (dp : DxP a ob ks) (h : DX K g B ks ps) : OwnAt K g B H a (.dict (mkP :: ps)) := by
  obtain ⟨dk, dv, h1, h2, h3, rfl⟩ := h.to
  exact .dx e dp h1 h2 h3
theorem zipK_mk {ks : List Key} {ds : List D} {ps : List (D × D)} (h : zipK ks ds = mkP :: ps) : False := by
  cases ks with
  | nil => cases h
  | cons k ks =>
    cases ds with
    | nil => cases h
    | cons d ds =>
      unfold zipK at h
      injection h with h1 h2
      injection h1 with h3 h4
      cases k <;> cases h3
theorem Hd.toDX {v : V} {ps : List (D × D)} (h : Hd K g B v (.dict (mkP :: ps))) : ∃ a ob ks, v = .ref a ∧ B a = some (obO a ob) ∧ DxP a ob ks ∧ DX K g B ks ps := by
  generalize e : (PyData.dict (mkP :: ps) : D) = d at h
  cases h with
  | dct h1 h2 => exact (zipK_mk (PyData.dict.inj e).symm).elim
  | tape => cases e
  | dx h1 h2 h3 h4 h5 => cases e; exact ⟨_, _, _, rfl, h1, h2, .of h3 h4 h5⟩
  | _ => cases e
theorem OwnAt.toDX {p : Addr} {ps : List (D × D)} (h : OwnAt K g B H p (.dict (mkP :: ps))) : ∃ ob ks, H p = some (obO p ob) ∧ DxP p ob ks ∧ DX K g B ks ps := by
  generalize e : (PyData.dict (mkP :: ps) : D) = d at h
  cases h with
  | lst h k => cases e
  | dct h1 h2 => exact (zipK_mk (PyData.dict.inj e).symm).elim
  | dx h1 h2 h3 h4 h5 => cases e; exact ⟨_, _, h1, h2, .of h3 h4 h5⟩
theorem Hd.nkRef {v : V} {kd : D} {k : NestedKey} (h : Hd K g B v kd) (e : nkD kd = some k) : ∃ b, v = .ref b := by
  obtain ⟨_, _, ds, rfl⟩ := nkD_of e
  cases h with
  | tup _ _ => exact ⟨_, rfl⟩
end

/-! ### the object -/
theorem np_get {k : NestedKey} : ∀ {ks : List NK} {xs : List (NestedKey × Addr × Value)}, NPair ks xs → RelO (valN ks k) ((atKey xs k).map (·.2)) := fun {ks xs} r => by
  unfold atKey
  induction r with
  | nil => exact True.intro
  | @cons p q ks xs h t ih =>
    rw [valN_cons, List.find?_cons]
    by_cases e : p.1 = k
    · rw [if_pos e]
      have e2 : decide (q.1 = k) = true := decide_eq_true (by rw [← h.1]; exact e)
      rw [e2]
      exact h.2.2
    · rw [if_neg e]
      have e2 : decide (q.1 = k) = false := decide_eq_false (by rw [← h.1]; exact e)
      rw [e2]
      exact ih
theorem np_put {k : NestedKey} {b : Addr} {v : V} {r : Value} {ks : List NK} {xs : List (NestedKey × Addr × Value)} (h : NPair ks xs) (rv : RelV v r) : NPair (putNK ks k b v) (storedH xs k b r) := by
  have e : (valN ks k).isSome = (atKey xs k).isSome := by
    have := (np_get (k := k) h).isSome_eq
    rw [Option.isSome_map] at this
    exact this
  unfold putNK storedH
  rw [e]
  split
  · clear e
    rename_i hh
    clear hh
    induction h with
    | nil => exact .nil
    | @cons p q ks xs h t ih =>
      rw [List.map_cons, List.map_cons]
      refine .cons ?_ ih
      unfold putAt
      by_cases e : p.1 = k
      · rw [if_pos e, if_pos (by rw [← h.1]; exact e)]
        exact ⟨h.1, h.2.1, rv⟩
      · rw [if_neg e, if_neg (by rw [← h.1]; exact e)]
        exact h
  · exact Paired.snoc h ⟨rfl, rfl, rv⟩
theorem len_putNK (ks : List NK) (k : NestedKey) (b : Addr) (v : V) : (putNK ks k b v).length ≤ ks.length + 1 := by
  unfold putNK
  split
  · rw [List.length_map]; omega
  · rw [List.length_append]; exact Nat.le_refl _
section
variable {X : Cx} {pins : List (Addr × Obj)} {σ : L2.St} {H B : Hp} {s : Shared} {g : G} {a : Addr} {ob : Obj} {ks : List NK} {ps : List (D × D)}
theorem _root_.L2.Inv.obO (I : Inv X pins σ H s) (e : H a = some (obO a ob)) : s.heap.get? a = some ob := (I.hok a _ e).1
theorem obO_ok {P : Program} {w : World} {H' : Hp} {h' : Heap} (e : h'.get? a = some ob) : ObjOk P w H' h' a (obO a ob) := ⟨e, ⟨_, e⟩, fun _ _ q k => k _ q⟩
theorem DX.is (I : Inv X pins σ H s) (sb : Sub B H) (h : DX X.K g B ks ps) : ∀ {xs : List (NestedKey × Addr × Value)}, NPair ks xs → ∀ x ∈ xs, (nestedKind X.prog X.w).is s.heap x.1 x.2.1 := by
  induction h with
  | nil => intro xs r x hx; cases r; cases hx
  | @cons j b v dk d ks ps h1 h2 h3 _ ih =>
    intro xs r x hx
    cases r with
    | cons q t =>
      rcases List.mem_cons.mp hx with z | z
      · subst z
        obtain ⟨n1, n2, _⟩ := nkD_of h2
        rw [← q.1, ← q.2.1]
        exact ⟨Hd.nk I sb dk _ j _ h1 n1 rfl, n2⟩
      · exact ih t x z
theorem dx_of (I : Inv X pins σ H s) (sb : Sub B H) (e : H a = some (obO a ob)) (dp : DxP a ob ks) (dx : DX X.K g B ks ps) :
    ks.length ≤ sizeLine ∧ (a == sysModules) = false ∧ ∃ xs, NPair ks xs ∧ s.heap.DictOfH (nestedKind X.prog X.w) a xs := by
  obtain ⟨z, hs, hx, xs, es, ep, r, nd, hd, hw⟩ := dp
  exact ⟨z, hs, xs, r, ob, es, ep, I.obO e, hx, hd, hw X.w, dx.is I sb r, nd⟩
theorem dxp_of {P : Program} {w : World} {h' : Heap} {xs : List (NestedKey × Addr × Value)} (z : ks.length ≤ sizeLine) (hs : (a == sysModules) = false) (r : NPair ks xs) (d : h'.DictOfH (nestedKind P w) a xs) (hh : ∀ x ∈ ks, ∀ w w' : World, x.1.hash w = x.1.hash w') :
    ∃ ob', h'.get? a = some ob' ∧ DxP a ob' ks := by
  obtain ⟨o, es, ep, ho, hx, hd, he, _, nd⟩ := d
  refine ⟨o, ho, z, hs, hx, xs, es, ep, r, nd, hd, fun w' => ?_⟩
  rw [he]
  refine List.map_congr_left fun x hx' => ?_
  have : ∀ {ks : List NK} {xs : List (NestedKey × Addr × Value)}, NPair ks xs → (∀ x ∈ ks, ∀ w w' : World, x.1.hash w = x.1.hash w') → ∀ x ∈ xs, x.1.hash w = x.1.hash w' := by
    intro ks xs r
    induction r with
    | nil => intro _ x hx; cases hx
    | @cons p q ks xs h t ih =>
      intro hh x hx
      rcases List.mem_cons.mp hx with z | z
      · subst z; rw [← h.1]; exact hh p List.mem_cons_self w w'
      · exact ih (fun y hy => hh y (List.mem_cons_of_mem _ hy)) x z
  show (⟨x.1.hash w, _, _⟩ : DictEntry) = ⟨x.1.hash w', _, _⟩
  rw [this r hh x hx']
theorem DX.hash (h : DX X.K g B ks ps) : ∀ x ∈ ks, ∀ w w' : World, x.1.hash w = x.1.hash w' := by
  induction h with
  | nil => intro x hx; cases hx
  | cons h1 h2 h3 _ ih =>
    intro x hx
    rcases List.mem_cons.mp hx with z | z
    · subst z; exact fun w w' => nk_hash w w' _ _ (nkD_of h2).1
    · exact ih x z
end

/-- what the dict at a holds at y; the heap behind a[y] = v -/
def NGet (K : PySem.W.Frag) (H : Hp) (a : Addr) (y : V) (r : Option V) : Prop := ∃ g B ob ks ps kd k, Sub B H ∧ H a = some (obO a ob) ∧ DxP a ob ks ∧ DX K g B ks ps ∧ Hd K g B y kd ∧ nkD kd = some k ∧ r = valN ks k
def NPut (K : PySem.W.Frag) (H : Hp) (a : Addr) (y v : V) (R : Hp → Prop) : Prop := ∃ g B ob ks ps kd k b, Sub B H ∧ H a = some (obO a ob) ∧ DxP a ob ks ∧ DX K g B ks ps ∧ y = .ref b ∧ Hd K g B y kd ∧ nkD kd = some k ∧ ks.length < sizeLine ∧
  ∀ ob', DxP a ob' (putNK ks k b v) → R (upd H a (obO a ob'))
def rNIn (K : PySem.W.Frag) (neg : Bool) : R2 := fun x y H Q => ∃ a o, y = .ref a ∧ NGet K H a x o ∧ Q (.bl (if neg then !o.isSome else o.isSome)) H
def rNGet (K : PySem.W.Frag) : R2 := fun x y H Q => ∃ a v, x = .ref a ∧ NGet K H a y (some v) ∧ Q v H
section
variable {X : Cx} {pos : Pos}
theorem op_nin (hu : X.A.units + 100 < cLine) : OpR X (compareOp .In) (rNIn X.K false) := by
  intro pins s σ H x y v u Q I rx ry h
  obtain ⟨a, o, rfl, ⟨g, B, ob, ks, ps, kd, k, sb, ea, dp, dx, hk, ek, rfl⟩, q⟩ := h
  obtain ⟨b, rfl⟩ := hk.nkRef ek
  cases (show v = Value.ref b from rx)
  cases (show u = Value.ref a from ry)
  obtain ⟨z, hs, xs, r, d⟩ := dx_of I sb ea dp dx
  obtain ⟨n1, n2, _⟩ := nkD_of ek
  refine wpAny_in_heap (knd := nestedKind X.prog X.w) (k := k) (show X.A.units + 1 + 8 < cLine by omega) ⟨Hd.nk I sb kd _ k _ hk n1 rfl, n2⟩ hs d ?_
  have e := (np_get (k := k) r).isSome_eq
  rw [Option.isSome_map] at e
  rw [← e]
  exact ⟨.bl _, H, I.tok _, rfl, q⟩
theorem op_nnotin (hu : X.A.units + 100 < cLine) : OpR X (compareOp .NotIn) (rNIn X.K true) := by
  intro pins s σ H x y v u Q I rx ry h
  obtain ⟨a, o, rfl, ⟨g, B, ob, ks, ps, kd, k, sb, ea, dp, dx, hk, ek, rfl⟩, q⟩ := h
  obtain ⟨b, rfl⟩ := hk.nkRef ek
  cases (show v = Value.ref b from rx)
  cases (show u = Value.ref a from ry)
  obtain ⟨z, hs, xs, r, d⟩ := dx_of I sb ea dp dx
  obtain ⟨n1, n2, _⟩ := nkD_of ek
  refine wpAny_notIn_heap (knd := nestedKind X.prog X.w) (k := k) (show X.A.units + 1 + 8 < cLine by omega) ⟨Hd.nk I sb kd _ k _ hk n1 rfl, n2⟩ hs d ?_
  have e := (np_get (k := k) r).isSome_eq
  rw [Option.isSome_map] at e
  rw [← e]
  exact ⟨.bl _, H, I.tok _, rfl, q⟩
theorem NGet.typeIs {pins : List (Addr × Obj)} {σ : L2.St} {H : Hp} {s : Shared} {a : Addr} {y : V} {o : Option V} (I : Inv X pins σ H s) (h : NGet X.K H a y o) : s.TypeIs (.ref a) "dict" := by
  obtain ⟨g, B, ob, ks, ps, kd, k, sb, ea, dp, dx, hk, ek, rfl⟩ := h
  exact ⟨ob, I.obO ea, dp.2.2.1.1⟩
theorem pe_nget {o i : Expr} {td ty : TE} (hu : X.A.units + 100 < cLine) (ho : PE X o td) (hi : PE X i ty) (hs : NoSl i) : PE X (.Subscript o i pos) (tOp (rNGet X.K) td ty) := by
  refine ⟨fun pins s σ H Q I h => ?_⟩
  refine subD_of PySem.F.slot_dict_getitem.lookup hs (thn (ho.run pins s σ H _ I h) fun u s1 ⟨x, H1, I1, rx, q1⟩ => thn (hi.run pins s1 σ H1 _ I1 q1) fun iv s2 ⟨y, H2, I2, ry, a, v, ex, g, q2⟩ => ?_)
  subst ex
  obtain rfl : u = Value.ref a := rx
  refine ⟨g.typeIs I2, ?_⟩
  obtain ⟨g, B, ob, ks, ps, kd, k, sb, ea, dp, dx, hk, ek, l⟩ := g
  obtain ⟨b, rfl⟩ := hk.nkRef ek
  cases (show iv = Value.ref b from ry)
  obtain ⟨z, hs, xs, r, d⟩ := dx_of I2 sb ea dp dx
  obtain ⟨n1, n2, _⟩ := nkD_of ek
  obtain ⟨w', hw, rw'⟩ := RelO.some_of (v := v) (o := (atKey xs k).map (·.2)) (by rw [l]; exact np_get r)
  obtain ⟨p, hp, hp2⟩ := Option.map_eq_some_iff.mp hw
  refine wpAny_getItem_heap (knd := nestedKind X.prog X.w) (k := k) (show X.A.units + 1 + 8 < cLine by omega) ⟨Hd.nk I2 sb kd _ k _ hk n1 rfl, n2⟩ d hp ?_
  rw [hp2]
  exact ⟨v, H2, I2.tok _, rw', q2⟩
def tsNPut (K : PySem.W.Frag) (td ty tv : TE) : TS := fun D σ H => tv σ H fun v H1 => td σ H1 fun x H2 => ty σ H2 fun y H3 => ∃ a, x = .ref a ∧ NPut K H3 a y v fun H4 => D.nx σ H4
theorem ps_nput {o i value : Expr} {td ty tv : TE} {pos' : Pos} (hu : X.A.units + 100 < cLine) (ho : PE X o td) (hi : PE X i ty) (hv : PE X value tv) (hs : swapsWith value (some (.Subscript o i pos')) pos.line X.env = pure false) :
    PS X (.Assign [.Subscript o i pos'] value pos) (tsNPut X.K td ty tv) := by
  refine ⟨fun pins s σ H D I h => ?_⟩
  refine wpAny_Assign_Subscript (thn (hv.run pins s σ H _ I h) fun r s1 ⟨v, H1, I1, rv, q1⟩ => thn (ho.run pins s1 σ H1 _ I1 q1) fun u s2 ⟨x, H2, I2, rx, q2⟩ => thn (hi.run pins s2 σ H2 _ I2 q2) fun iv s3 ⟨y, H3, I3, ry, a, ex, g, q3⟩ => ?_) hs
  subst ex
  obtain rfl : u = Value.ref a := rx
  obtain ⟨B, ob, ks, ps, kd, k, b, sb, ea, dp, dx, rfl, hk, ek, hl, q3⟩ := q3
  cases (show iv = Value.ref b from ry)
  obtain ⟨z, hs, xs, rr, d⟩ := dx_of I3 sb ea dp dx
  obtain ⟨n1, n2, _⟩ := nkD_of ek
  have hz : xs.length ≤ sizeLine := by rw [← Paired.length rr]; exact z
  refine wpAny_setItem_heap (knd := nestedKind X.prog X.w) (k := k) (hsz := hz) (show X.A.units + 1 + 8 < cLine by omega) ⟨Hd.nk I3 sb kd _ k _ hk n1 rfl, n2⟩ d fun h' d' hs' => ?_
  obtain ⟨ob', ho', dp'⟩ := dxp_of (by have := len_putNK ks k b v; omega) hs (np_put rr rv) d' (fun x hx w w' => by
    unfold putNK at hx
    split at hx
    · obtain ⟨y, hy, rfl⟩ := List.mem_map.mp hx
      split
      · exact dx.hash y hy w w'
      · exact dx.hash y hy w w'
    · rcases List.mem_append.mp hx with z | z
      · exact dx.hash x z w w'
      · rw [List.mem_singleton] at z
        subst z
        exact nk_hash w w' _ _ n1)
  exact ⟨σ, _, d_write I3 (by rw [ea]; exact True.intro) hs' ⟨_, ho'⟩ (obO_ok ho'), q3 ob' dp'⟩
end
end PP

namespace PP
open PySem PySem.Spec PyProof.Rows L2

/-! ### dicts with nested keys: rules -/
def unN : D → Option (List (D × D))
  | .dict ((.dict [], .none) :: ps) => some ps
  | _ => none
theorem unN_eq {d : D} {ps : List (D × D)} (h : unN d = some ps) : d = .dict (mkP :: ps) := by
  unfold unN at h
  split at h
  · cases h; rfl
  · cases h
def dNGet : D → D → Option D := fun d x => match unN d with
  | some ps => match nkD x with
    | some k => getN ps k
    | none => none
  | none => none
def dNIn (neg : Bool) : D → D → Option D := fun x d => match unN d with
  | some ps => match nkD x with
    | some k => some (.bool (if neg then !(getN ps k).isSome else (getN ps k).isSome))
    | none => none
  | none => none
section
variable {K : PySem.W.Frag}
theorem d_nget : OpD K (rNGet K) dNGet := by
  intro g B H t x y dx dy d Q bs hx hy e q
  unfold dNGet at e
  split at e
  · rename_i ps ep
    split at e
    · rename_i k ek
      rw [unN_eq ep] at hx
      obtain ⟨a, ob, ks, rfl, e1, dp, dd⟩ := hx.toDX
      rcases dd.get k with ⟨_, z⟩ | ⟨v, d2, z1, z2, hv⟩
      · rw [z] at e; cases e
      · rw [z2] at e
        cases e
        exact ⟨a, v, rfl, ⟨g, B, ob, ks, ps, dy, k, bs.sub, bs.sub _ _ e1, dp, dd, hy, ek, z1.symm⟩, q v B H (.refl bs) hv⟩
    · cases e
  · cases e
theorem d_nin {neg : Bool} : OpD K (rNIn K neg) (dNIn neg) := by
  intro g B H t x y dx dy d Q bs hx hy e q
  unfold dNIn at e
  split at e
  · rename_i ps ep
    split at e
    · rename_i k ek
      rw [unN_eq ep] at hy
      obtain ⟨a, ob, ks, rfl, e1, dp, dd⟩ := hy.toDX
      cases e
      refine ⟨a, _, rfl, ⟨g, B, ob, ks, ps, dx, k, bs.sub, bs.sub _ _ e1, dp, dd, hx, ek, rfl⟩, ?_⟩
      rw [dd.isSome k]
      exact q _ B H (.refl bs) (.bl _)
    · cases e
  · cases e
end
section
variable {X : Cx} {a b : Expr} {fa fb : SE} {pos : Pos}
theorem ev_nget (ha : EV X a fa) (hb : EV X b fb) (hu : X.A.units + 100 < cLine) (hs : NoSl b := by intro _ _; rfl) : EV X (.Subscript a b pos) (cBin dNGet fa fb) :=
  ⟨pe_weak (pe_nget hu ha.pe hb.pe hs) fun _ _ _ h => tbin d_nget h⟩
theorem ec_nin (hu : X.A.units + 100 < cLine) : EC X .In (rNIn X.K false) (dNIn false) := ⟨op_nin hu, d_nin⟩
theorem ec_nnotin (hu : X.A.units + 100 < cLine) : EC X .NotIn (rNIn X.K true) (dNIn true) := ⟨op_nnotin hu, d_nin⟩
end

/-! own ones -/
def cNInO (neg : Bool) (f : SE) (i : Nat) : SE := fun e t => match f e t with
  | some (x, t') => match nkD x with
    | some k => match e[i]? with
      | some (some d) => match unN d with
        | some ps => some (.bool (if neg then !(getN ps k).isSome else (getN ps k).isSome), t')
        | none => none
      | _ => none
    | none => none
  | none => none
def sNPut (i : Nat) (f fk : SE) : SS := fun e t => match f e t with
  | some (d, t1) => match fk e t1 with
    | some (x, t2) => match nkD x with
      | some k => match e[i]? with
        | some (some dd) => match unN dd with
          | some ps => if ps.length < LIM then some (.nx (e.set i (some (.dict (mkP :: putN ps x k d)))) t2) else none
          | none => none
        | _ => none
      | none => none
    | none => none
  | none => none
def cNDisp (fk fv : SE) : SE := fun e t => match fk e t with
  | some (x, t1) => match fv e t1 with
    | some (y, t2) => match nkD x with
      | some _ => some (.dict [mkP, (x, y)], t2)
      | none => none
    | none => none
  | none => none
def cNNew : SE := fun _ t => some (.dict [mkP], t)
section
variable {X : Cx} {R : RT} {o : List Nat} {x : Str} {a e : Expr} {f fk : SE} {p p2 pos : Pos} {neg : Bool}
theorem tB_nin {i : Nat} {σ : Sg} {H : Hp} {Q : Bool → Hp → Prop} (ho : i ∈ o) (h : tDTS X.K o (cTest (cNInO neg f i)) σ H Q) : tTest (tOp (rNIn X.K neg) (tDS X.K o f) (tVar i)) σ H Q := by
  obtain ⟨g, fg, B, env, t, c, t', r, e, q⟩ := h
  unfold cTest cNInO at e
  split at e
  · rename_i b t1 e1
    cases e
    split at e1
    · rename_i d t2 ef
      split at e1
      · rename_i k ek
        split at e1
        · rename_i dd ei
          split at e1
          · rename_i ps eu
            cases e1
            refine ⟨g, fg, B, env, t, d, _, r, ef, fun v B1 H1 r1 sb hv => ?_⟩
            obtain ⟨q1, s1, k1, k2, k3, k4⟩ := r1.own i _ ho ei
            rw [unN_eq eu] at k4
            obtain ⟨ob, ks, h1, dp, dx⟩ := k4.toDX
            refine ⟨_, s1, q1, _, rfl, ⟨g, B1, ob, ks, ps, d, k, r1.bs.sub, h1, dp, dx, hv, ek, rfl⟩, _, rfl, ?_⟩
            rw [dx.isSome k]
            exact q B1 H1 r1
          · cases e1
        · cases e1
      · cases e1
    · cases e1
  · cases e
theorem ets_nnotin (i : Nat) (hu : X.A.units + 100 < cLine) (ha : EVS X o a f) (ho : i ∈ o := by decide) (hN : X.N[i]? = some x := by rfl) (hv : Vis X.env.scope x := by first | exact Or.inl rfl | exact Or.inr (Or.inl rfl) | exact Or.inr (Or.inr rfl)) (hd : (x == ("__debug__" : Str)) = false := by decide) (hcd : (x == ("__classdict__" : Str)) = false := by decide)
    (h1 : behindInMarks .NotIn (.Name x p) = false := by first | exact nobehind _ (by decide) (by decide) | rfl) : ETS X o (.Compare a [.NotIn] [.Name x p] pos) (cTest (cNInO true f i)) :=
  ⟨pt_weak (pt_cmpR (op_nnotin hu) ha.pe (pe_var hN hv hd hcd) h1) fun σ H Q h => tB_nin ho h⟩
theorem ets_nin (i : Nat) (hu : X.A.units + 100 < cLine) (ha : EVS X o a f) (ho : i ∈ o := by decide) (hN : X.N[i]? = some x := by rfl) (hv : Vis X.env.scope x := by first | exact Or.inl rfl | exact Or.inr (Or.inl rfl) | exact Or.inr (Or.inr rfl)) (hd : (x == ("__debug__" : Str)) = false := by decide) (hcd : (x == ("__classdict__" : Str)) = false := by decide)
    (h1 : behindInMarks .In (.Name x p) = false := by first | exact nobehind _ (by decide) (by decide) | rfl) : ETS X o (.Compare a [.In] [.Name x p] pos) (cTest (cNInO false f i)) :=
  ⟨pt_weak (pt_cmpR (op_nin hu) ha.pe (pe_var hN hv hd hcd) h1) fun σ H Q h => tB_nin ho h⟩
theorem es_nput (i : Nat) (hu : X.A.units + 100 < cLine) (he : EVS X o e f) (hk : EVS X o a fk) (ho : i ∈ o := by decide) (hN : X.N[i]? = some x := by rfl) (hv : Vis X.env.scope x := by first | exact Or.inl rfl | exact Or.inr (Or.inl rfl) | exact Or.inr (Or.inr rfl)) (hd : (x == ("__debug__" : Str)) = false := by decide) (hcd : (x == ("__classdict__" : Str)) = false := by decide)
    (hs : swapsWith e (some (.Subscript (.Name x p) a p2)) pos.line X.env = pure false := by rfl) : ES X R o (.Assign [.Subscript (.Name x p) a p2] e pos) (sNPut i f fk) o :=
  ⟨ps_weak (ps_nput hu (pe_var hN hv hd hcd) hk.pe he.pe hs) fun E σ H h => by
  obtain ⟨g, fg, B, env, t, r, rp, e, q⟩ := h
  unfold sNPut at e
  split at e
  · rename_i d t1 ef
    split at e
    · rename_i y t2 ek
      split at e
      · rename_i k eky
        split at e
        · rename_i dd ei
          split at e
          · rename_i ps eu
            split at e
            · rename_i hl
              cases e
              refine ⟨g, fg, B, env, t, d, t1, rp, ef, fun v B1 H1 r1 sb1 hv1 => ?_⟩
              obtain ⟨q1, s1, k1, k2, k3, k4⟩ := r1.own i _ ho ei
              refine ⟨_, s1, g, fg, B1, env, t1, y, t2, r1, ek, fun w B2 H2 r2 sb2 hw => ?_⟩
              obtain ⟨q2, s2, _, _, _, k5⟩ := r2.own i _ ho ei
              rw [s1] at s2
              cases s2
              rw [unN_eq eu] at k5
              obtain ⟨ob, ks, h1, dp, dx⟩ := k5.toDX
              have hz : ks.length < sizeLine := lim_lt (by rw [dx.len]; exact hl)
              obtain ⟨b, rfl⟩ := hw.nkRef eky
              refine ⟨q1, rfl, g, B2, ob, ks, ps, y, k, b, r2.bs.sub, h1, dp, dx, rfl, hw, eky, hz, fun ob' dp' => ?_⟩
              exact q σ B2 _ (r2.mut ho ei s1 (.ofDX upd_same dp' (dx.put hw eky (hv1.mono sb2))))
            · cases e
          · cases e
        · cases e
      · cases e
    · cases e
  · cases e⟩

/-! displays -/
theorem dxp_nil {a : Addr} (hs : (a == sysModules) = false) : DxP a { cls := .type "dict", data := .dict #[] } [] :=
  ⟨Nat.zero_le _, hs, ⟨rfl, rfl, rfl⟩, [], #[], 0, .nil, List.nodup_nil, rfl, fun _ => rfl⟩
def tNNew : TE := fun _ H Q => ∀ p ob, H p = none → DxP p ob [] → Q (.ref p) (upd H p (obO p ob))
theorem pe_nnew : PE X (.Dict [] [] pos) tNNew := ⟨fun pins s σ H Q I h =>
  wpAny_Dict_empty ⟨.ref s.heap.objs.size, _, I.laid (a := s.heap.objs.size) (o := obO s.heap.objs.size { cls := .type "dict", data := .dict #[] }) (t' := s.toks) (fun _ _ q => Heap.get?_push_of_some _ q) (Nat.le_refl _) (obO_ok (Heap.get?_push_size _ rfl)), rfl,
    h _ _ (I.hok.fresh (Nat.le_refl _)) (dxp_nil (beq_eq_false_iff_ne.mpr (Ne.symm (Nat.ne_of_lt I.big))))⟩⟩
theorem ef_nnew : EF X (.Dict [] [] pos) cNNew := ⟨pe_weak pe_nnew fun σ H Q h => by
  obtain ⟨g, B, env, t, d, t', r, e, q⟩ := h
  cases e
  intro p ob np dp
  have bp : B p = none := by
    cases z : B p with
    | none => rfl
    | some x => rw [r.bs.sub p x z] at np; cases np
  exact q p B _ (Step.hid r.bs np) np bp (.ofDX upd_same dp .nil)⟩
def tNDisp (trs : List (TE × TE)) (K : PySem.W.Frag) : TE := fun σ H Q => ∀ p ob0, H p = none → DxP p ob0 [] → tPairs trs σ (upd H p (obO p ob0)) fun vs H2 => H2 p = some (obO p ob0) ∧
  ∃ g B kd k b y, vs = [(.ref b, y)] ∧ Sub B H2 ∧ Hd K g B (.ref b) kd ∧ nkD kd = some k ∧ ∀ ob', DxP p ob' [(k, b, y)] → Q (.ref p) (upd H2 p (obO p ob'))
theorem pe_ndisp {k v : Expr} {tk tv : TE} (hu : X.A.units + 100 < cLine) (h : PPs X pos [some k] [v] [(tk, tv)]) : PE X (.Dict [some k] [v] pos) (tNDisp [(tk, tv)] X.K) := by
  refine ⟨fun pins s σ H Q I q => ?_⟩
  have hn := I.hok.fresh (Nat.le_refl s.heap.objs.size)
  have hs : (s.heap.objs.size == sysModules) = false := beq_eq_false_iff_ne.mpr (Ne.symm (Nat.ne_of_lt I.big))
  have I1 := I.laid (a := s.heap.objs.size) (o := obO s.heap.objs.size { cls := .type "dict", data := .dict #[] }) (h' := s.heap.push { cls := .type "dict", data := .dict #[] }) (t' := s.toks) (fun _ _ q => Heap.get?_push_of_some _ q) (Nat.le_refl _) (obO_ok (Heap.get?_push_size _ rfl))
  refine wpAny_Dict_any rfl rfl (List.cons_ne_nil _ _) (show 1 ≤ 15 by decide) (thn (h.run pins _ σ _ _ I1 (q _ _ hn (dxp_nil hs))) fun ws s2 ⟨ps, H2, I2, rel, e, g, B, kd, ky, b, y, ep, sb, hk, ek, q2⟩ => ?_)
  subst ep
  obtain ⟨u, w', rfl, ru, rw'⟩ : ∃ u w', ws = [(u, w')] ∧ RelV (.ref b) u ∧ RelV y w' := by
    cases rel with
    | @cons p q _ _ r1 r2 =>
      cases r2
      exact ⟨q.1, q.2, rfl, r1.1, r1.2⟩
  cases (show u = Value.ref b from ru)
  obtain ⟨n1, n2, _⟩ := nkD_of ek
  have dd : s2.heap.DictOfH (nestedKind X.prog X.w) s.heap.objs.size [] := ⟨_, #[], 0, I2.obO e, ⟨rfl, rfl, rfl⟩, rfl, rfl, (fun x hx => nomatch hx), List.nodup_nil⟩
  have key : (nestedKind X.prog X.w).is s2.heap ky b := ⟨Hd.nk I2 sb kd _ ky _ hk n1 rfl, n2⟩
  refine wpAny_storeAllH (knd := nestedKind X.prog X.w) (show X.A.units + 8 < cLine by omega) [(Value.ref b, w')] [(ky, b, w')] [] s2 _ ⟨rfl, rfl, key, True.intro⟩ dd (show 1 ≤ sizeLine by decide) fun h' tk d' hs' => ?_
  obtain ⟨ob', ho', dp'⟩ := dxp_of (ks := [(ky, b, y)]) (show 1 ≤ sizeLine by decide) hs (.cons ⟨rfl, rfl, rw'⟩ .nil) d' (fun x hx w1 w2 => by
    rw [List.mem_singleton] at hx
    subst hx
    exact nk_hash w1 w2 _ _ n1)
  exact ⟨.ref s.heap.objs.size, _, d_write I2 (by rw [e]; exact True.intro) hs' ⟨_, ho'⟩ (obO_ok ho'), rfl, q2 ob' dp'⟩
theorem ef_ndisp {k v : Expr} {fv : SE} (hu : X.A.units + 100 < cLine) (hk : EV X k fk) (hv : EV X v fv) : EF X (.Dict [some k] [v] pos) (cNDisp fk fv) := ⟨pe_weak (pe_ndisp hu (pps_cons hk.pe hv.pe pps_nil)) fun σ H Q h => by
  obtain ⟨g, B, env, t, d, t', r, e, q⟩ := h
  unfold cNDisp at e
  split at e
  · rename_i x t1 ek
    split at e
    · rename_i y t2 ev
      split at e
      · rename_i kk en
        cases e
        intro p ob0 np dp
        have s0 := Step.hid (o := obO p ob0) r.bs np
        have bp : B p = none := by
          cases z : B p with
          | none => rfl
          | some x => rw [r.bs.sub p x z] at np; cases np
        have nt : p ≠ g.ta := (ne_of_none r.bs.tp np).symm
        refine ⟨g, B, env, t, x, t1, r.step s0, ek, fun w1 B1 H1 s1 h1 => ⟨g, B1, env, t1, y, _, (r.step s0).step s1, ev, fun w2 B2 H2 s2 h2 => ?_⟩⟩
        have e1 : H1 p = some (obO p ob0) := s1.h1 p _ nt upd_same
        have e2 : H2 p = some (obO p ob0) := s2.h1 p _ nt e1
        have b1 : B1 p = none := s1.b3 p (by rw [upd_same]; exact fun z => nomatch z) bp
        have b2 : B2 p = none := s2.b3 p (by rw [e1]; exact fun z => nomatch z) b1
        obtain ⟨b, rfl⟩ := h1.nkRef en
        refine ⟨e2, g, B2, x, kk, b, w2, rfl, s2.bs.sub, h1.mono s2.b1, en, fun ob' dp' => ?_⟩
        have s12 : Step g B H _ B2 H2 := (s0.trans r.bs s1).trans r.bs s2
        exact q p B2 _ (Step.mut r.bs s12 np b2) np b2 (.ofDX upd_same dp' (.cons (h1.mono s2.b1) en h2 .nil))
      · cases e
    · cases e
  · cases e⟩
/-- x, y = {..}, [..] with x one's own -/
def sParF (i j : Nat) (f h : SE) : SS := fun e t => match f e t with
  | some (d1, t1) => match h e t1 with
    | some (d2, t2) => some (.nx ((e.set i (some d1)).set j (some d2)) t2)
    | none => none
  | none => none
theorem es_parF {i j : Nat} {x y : Str} {b : Expr} {fa fb : SE} {px py pt : Pos} {kt k2 pt2} (ha : EF X a fa) (hb : EV X b fb) (hc : X.calm = true) (hN : X.N.Nodup) (hij : i ≠ j := by decide) (hi : X.N[i]? = some x := by rfl) (hj : X.N[j]? = some y := by rfl)
    (hx : X.env.scope.names.lookup x = some .local := by rfl) (hy : X.env.scope.names.lookup y = some .local := by rfl)
    (hsa : starEach [a, b] X.env = (false, eval a X.env) :: starEach [b] X.env := by rfl) (hsb : starEach [b] X.env = (false, eval b X.env) :: starEach [] X.env := by rfl)
    (hw : swappedStores [.Tuple [.Name x px, .Name y py] kt pt] (.Tuple [a, b] k2 pt2) X.env = pure (some [x, y]) := by rfl)
    (hs : swapsWithSole [.Tuple [.Name x px, .Name y py] kt pt] (.Tuple [a, b] k2 pt2) pos.line X.env = pure false := by rfl) :
    ES X R [] (.Assign [.Tuple [.Name x px, .Name y py] kt pt] (.Tuple [a, b] k2 pt2) pos) (sParF i j fa fb) ((i :: ([] : List Nat).filter (· ≠ i)).filter (· ≠ j)) :=
  ⟨ps_weak (ps_par hc hN hi hj hij hx hy (pa_cons ha.pe (pa_cons hb.pe pa_nil hsb) hsa) hw hs) fun E σ H h => by
  obtain ⟨g, fg, B, env, t, r, rp, e, q⟩ := h
  unfold sParF at e
  split at e
  · rename_i d1 t1 e1
    split at e
    · rename_i d2 t2 e2
      cases e
      refine ⟨g, B, env, t, d1, t1, rp.rep0, e1, fun p B1 H1 s1 hp bp ow => ?_⟩
      refine ⟨g, B1, env, t1, d2, t2, rp.rep0.step s1, e2, fun v B2 H2 s2 hv => ?_⟩
      refine ⟨.ref p, v, rfl, q _ B2 H2 ?_⟩
      have nt : p ≠ g.ta := (ne_of_none rp.bs.tp hp).symm
      have r1 := rp.step (s1.trans rp.bs s2)
      have em : H2 p = H1 p := by
        cases z : H1 p with
        | none => exact absurd z ow.live
        | some x => exact s2.h1 p x nt z
      have r2 := r1.setOwn (i := i) nt (s2.b3 p ow.live bp) (rp.fresh hp) (fun k d hk => by cases hk) (ow.move em s2.b1)
      exact r2.set (i := j) hv
    · cases e
  · cases e⟩
end
end PP

namespace PP
open PySem PySem.Spec PyProof.Rows L2

/-! ### dicts with nested keys: walks, len, list, get -/
theorem DxP.raw {a : Addr} {ob : Obj} {ks : List NK} (w : World) (dp : DxP a ob ks) : ∃ es ep, ob.data = .dict es ep ∧ es.size = ks.length ∧ ∀ (i : Nat) (x : NK), ks[i]? = some x → ∃ en : DictEntry, es[i]? = some en ∧ en.key = .ref x.2.1 ∧ RelV x.2.2 en.val := by
  obtain ⟨z, hs, hx, xs, es, ep, r, nd, hd, hw⟩ := dp
  have he := hw w
  refine ⟨es, ep, hd, ?_, fun i x e => ?_⟩
  · rw [← Array.length_toList, he, List.length_map, ← Paired.length r]
  · obtain ⟨q, e1, e2⟩ := paired_get r e
    refine ⟨⟨q.1.hash w, .ref q.2.1, q.2.2⟩, ?_, ?_, e2.2.2⟩
    · rw [← Array.getElem?_toList, he, List.getElem?_map, e1]; rfl
    · rw [e2.2.1]
def ItNK (a : Addr) (ob : Obj) (ks : List NK) : It :=
  ⟨fun i H => H a = some (obO a ob) ∧ i < ks.length, fun i H x H' => H' = H ∧ ∃ y : NK, ks[i]? = some y ∧ x = .ref y.2.1, fun i H => H a = some (obO a ob) ∧ ks.length ≤ i⟩
def ItNI (a : Addr) (ob : Obj) (ks : List NK) : It :=
  ⟨fun i H => H a = some (obO a ob) ∧ i < ks.length, fun i H x H' => ∃ (T : Addr) (y : NK), ks[i]? = some y ∧ x = .ref T ∧ H T = none ∧ H' = upd H T (.tup [.ref y.2.1, y.2.2]), fun i H => H a = some (obO a ob) ∧ ks.length ≤ i⟩
section
variable {P : Program} {w : World} {K : PySem.W.Frag} {tg : Expr} {d : Addr} {o : Obj} {es : Array DictEntry} {ep : Nat} {ks : List NK}
theorem turn_nkeys (it : Addr) (hod : o.data = .dict es ep) (hsz : es.size = ks.length) (ent : ∀ (i : Nat) (x : NK), ks[i]? = some x → ∃ en : DictEntry, es[i]? = some en ∧ en.key = .ref x.2.1 ∧ RelV x.2.2 en.val) :
    Turn P w K tg (ItNK d o ks) [it] it (fun i h => h.IsKeyIter it d i ks.length ep) where
  mem := by simp
  obj := fun i h st b hb => by
    have e : b = it := by simpa using hb
    subst e
    obtain ⟨oi, e, c, dd⟩ := st
    exact ⟨oi, e, fun v z => by rw [dd] at z; cases z⟩
  keep := fun i h h' st k => st.at fun oi e => k it (by simp) oi e
  item := by
    intro X hP hw hK hc i pins s σ H E I hf st hg
    subst hP hw hK
    obtain ⟨hd, hi⟩ := hg
    obtain ⟨f0, f1, f2, f3, f4, f5⟩ := hf it (by simp)
    have hgd := I.obO hd
    obtain ⟨x, hx⟩ : ∃ p, ks[i]? = some p := ⟨ks[i], List.getElem?_eq_getElem hi⟩
    obtain ⟨en, hen, hkey, _⟩ := ent i x hx
    refine next_key_item st hgd hod hsz hen fun h' st' sb => ?_
    have I1 : Inv X pins σ H { s with heap := h' } := I.turned (t' := s.toks) (fun b ob hb e => (sb.2 b hb).trans e) f0 f1 f3 f4 f5
    obtain ⟨oi, e, c, dd⟩ := id st'
    exact ⟨en.key, rfl, go_of (s := { s with heap := h' }) e c dd (by decide) ⟨.ref x.2.1, H, I1, hkey, ⟨rfl, x, hx, rfl⟩, st', fun b hb => (hf b hb).1⟩⟩
  done := by
    intro X hP hw hK hc i pins s σ H E I hf st hg
    subst hP hw hK
    obtain ⟨hd, hi⟩ := hg
    obtain ⟨f0, f1, f2, f3, f4, f5⟩ := hf it (by simp)
    exact next_key_end (I.ok.hd hc) st (I.obO hd) hod hsz hi fun h' eb => ⟨rfl, I.turned (t' := s.toks) (fun b ob hb e => eb b ob hb e) f0 f1 f3 f4 f5⟩
  self := fun A i s Q E st h => by
    refine wpAny_pyIter_slot st.typeIs F.slot_dict_keyiterator_iter (wpAny_call_entry F.slot_dict_keyiterator_iter st.typeIs F.entry_dict_keyiterator_iter ?_ (F.args_dict_keyiterator_iter_1 _))
    show wpAny _ _ (ret (.ref it)) _ _ s
    exact wpAny_pure ⟨_, rfl, "dict_keyiterator", _, st.typeIs, F.slot_dict_keyiterator_next.lookup, h⟩
theorem turn_nitems {elts : List Expr} {kk : Nat} {tpos : Pos} (it : Addr) (hx0 : o.ExactDict) (hod : o.data = .dict es ep) (hsz : es.size = ks.length) (ent : ∀ (i : Nat) (x : NK), ks[i]? = some x → ∃ en : DictEntry, es[i]? = some en ∧ en.key = .ref x.2.1 ∧ RelV x.2.2 en.val) :
    Turn P w K (.Tuple elts kk tpos) (ItNI d o ks) [it] it (fun i h => ∃ ok ov, IsItemIter h it d i es.size ep ok ov) where
  mem := by simp
  obj := fun i h st b hb => by
    have e : b = it := by simpa using hb
    subst e
    obtain ⟨ok, ov, e⟩ := st
    exact ⟨_, e, fun v z => nomatch z⟩
  keep := fun i h h' st k => let ⟨ok, ov, e⟩ := st; ⟨ok, ov, k it (by simp) _ e⟩
  item := by
    intro X hP hw hK hc i pins s σ H E I hf st hg
    subst hP hw hK
    obtain ⟨hd, hi⟩ := hg
    have hgd := I.obO hd
    obtain ⟨x, hx⟩ : ∃ p, ks[i]? = some p := ⟨ks[i], List.getElem?_eq_getElem hi⟩
    obtain ⟨en, hen, hkey, hval⟩ := ent i x hx
    have hi' : i < es.size := by omega
    have hen' : es[i] = en := by rw [Array.getElem?_eq_getElem hi'] at hen; exact Option.some.inj hen
    obtain ⟨ok, ov, he⟩ := st
    have hlt : it < s.heap.objs.size := Heap.lt_size he
    refine PySem.wpAny_pyNext_items_item_raw he ⟨o, hgd, hx0, hod⟩ hi' fun h' ho hT hz hk => ?_
    rw [hen'] at ho hT
    refine ⟨_, rfl, wpAny_letOwnedTupleGo_items (s := { s with heap := h' }) ho fun h'' he' sb => ?_⟩
    have hT2 : h''.get? s.heap.objs.size = some { cls := .type "tuple", data := .seq #[en.key, en.val] } := (sb.2 _ (Nat.ne_of_gt hlt)).trans hT
    have new : ObjOk X.prog X.w (upd H s.heap.objs.size (.tup [.ref x.2.1, x.2.2])) h'' s.heap.objs.size (.tup [.ref x.2.1, x.2.2]) :=
      ⟨by show 2 ≤ sizeLine; decide, [en.key, en.val], .cons hkey (.cons hval .nil), ⟨_, hT2, rfl, _, rfl⟩⟩
    have I1 : Inv X pins σ (upd H s.heap.objs.size (.tup [.ref x.2.1, x.2.2])) { s with heap := h'' } :=
      I.turnedNew (t' := s.toks) (ch := [it]) (fun b ob hb e => (sb.2 b (by simpa using hb)).trans (hk b ob (by simpa using hb) e)) hf (Nat.le_refl _) new
    refine ⟨.ref s.heap.objs.size, _, I1, rfl, ⟨_, x, hx, rfl, I.hok.fresh (Nat.le_refl _), rfl⟩, ⟨_, _, he'⟩, fun b hb => ?_⟩
    have e : b = it := by simpa using hb
    rw [e, upd_ne (Nat.ne_of_lt hlt)]
    exact (hf it (by simp)).1
  done := by
    intro X hP hw hK hc i pins s σ H E I hf st hg
    subst hP hw hK
    obtain ⟨hd, hi⟩ := hg
    obtain ⟨f0, f1, f2, f3, f4, f5⟩ := hf it (by simp)
    obtain ⟨ok, ov, he⟩ := st
    exact PySem.wpAny_pyNext_items_end_raw (I.ok.hd hc) he ⟨o, I.obO hd, hx0, hod⟩ (by omega) fun h' eb => ⟨rfl, I.turned (t' := s.toks) (fun b ob hb e => eb b ob hb e) f0 f1 f3 f4 f5⟩
  self := fun A i s Q E st h => let ⟨_, _, e⟩ := st; PySem.W.kcp_self e h
end
def piNK (td : TE) : TI := fun σ H R => td σ H fun x H1 => ∃ a ob ks, x = .ref a ∧ H1 a = some (obO a ob) ∧ DxP a ob ks ∧ R (ItNK a ob ks) H1
def piNI (td : TE) : TI := fun σ H R => td σ H fun x H1 => ∃ a ob ks, x = .ref a ∧ H1 a = some (obO a ob) ∧ DxP a ob ks ∧ R (ItNI a ob ks) H1
section
variable {X : Cx} {tg e : Expr} {td : TE} {apos cpos : Pos}
theorem pi_nkeys (he : PE X e td) : PI X tg e (piNK td) := by
  refine ⟨fun pins s σ H R I h => ?_⟩
  refine thn (he.run pins s σ H _ I h) fun u s1 ⟨x, H1, I1, rx, d, ob, ks, ex, hd, dp, q⟩ => ?_
  subst ex
  obtain rfl : u = Value.ref d := rx
  obtain ⟨es, ep, hdt, hsz, ent⟩ := dp.raw X.w
  refine iter_keys dp.2.1 (I1.obO hd) dp.2.2.1 hdt (pi_one (tk := s1.toks) I1 _ (turn_nkeys _ hdt hsz ent) ⟨_, Heap.get?_push_size _ rfl, rfl, ?_⟩ q)
  rw [hsz] <;> rfl
theorem pi_nitems {elts : List Expr} {kk : Nat} {tpos : Pos} (he : PE X e td) (hbase : attributeBase e "items" X.env (eval e X.env) = eval e X.env := by rfl) (hline : (apos.endLine == cpos.line) = true := by rfl) :
    PI X (.Tuple elts kk tpos) (.Call (.Attribute e "items" apos) [] [] cpos) (piNI td) := by
  refine ⟨fun pins s σ H R I h => ?_⟩
  refine wpAny_Call_method (T := "dict") (id := "dict.items") hbase rfl hline F.plainAttrs_dict F.slot_dict_items F.type_dict_items (thn (he.run pins s σ H _ I h) fun u s1 ⟨x, H1, I1, rx, d, ob, ks, ex, hd, dp, q⟩ => ?_)
  subst ex
  obtain rfl : u = Value.ref d := rx
  obtain ⟨es, ep, hdt, hsz, ent⟩ := dp.raw X.w
  have hg := I1.obO hd
  have hm : s1.heap.DictRaw d es ep := ⟨ob, hg, dp.2.2.1, hdt⟩
  refine ⟨hm.typeIs, (fun b q => by cases q; exact ⟨ob, hg, dp.2.2.1.2.1⟩), ?_⟩
  have I2 : Inv X pins σ H1 { s1 with heap := s1.heap.push { cls := .type "dict_items", data := .fields #[.ref d] } } := I1.kept (t' := s1.toks) fun b ob q => Heap.get?_push_of_some _ q
  have fin : wpAny (model X.prog X.w) X.A (pyIter (.ref s1.heap.objs.size)) (PIE X pins σ (.Tuple elts kk tpos) R) X.xe { s1 with heap := s1.heap.push { cls := .type "dict_items", data := .fields #[.ref d] } } := by
    refine PySem.wpAny_pyIter_items_raw (d := d) ⟨_, Heap.get?_push_size _ rfl, rfl, rfl⟩ (hm.at fun o e => Heap.get?_push_of_some _ e) (pi_one (tk := s1.toks) I2 _ (turn_nitems _ dp.2.2.1 hdt hsz ent) ⟨.none, .none, ?_⟩ q)
    exact Heap.get?_push_size _ rfl
  show wpAny _ _ (callWith cpos (.builtin "dict.items") [.ref d] [] []) _ X.xe s1
  exact method_meetsIn F.slot_dict_items F.entry_dict_items rfl (PySem.evalArgs_none ⟨rfl, hm.typeIs, F.args_dict_items_1 _, _, PySem.meets_dict_items_raw d dp.2.1, ⟨es, ep, hm⟩, fin⟩)
end
def iNKeys (f : SE) : SA := fun e t => match f e t with
  | some (d, t') => match unN d with
    | some ps => some (ps.map (·.1), t')
    | none => none
  | none => none
def iNItems (f : SE) : SA := fun e t => match f e t with
  | some (d, t') => match unN d with
    | some ps => some (ps.map (fun p => .tuple [p.1, p.2]), t')
    | none => none
  | none => none
theorem DX.at {K : PySem.W.Frag} {g : G} {B : Hp} {ks : List NK} {ps : List (D × D)} (h : DX K g B ks ps) : ∀ {i : Nat} {p : D × D}, ps[i]? = some p → ∃ x : NK, ks[i]? = some x ∧ Hd K g B (.ref x.2.1) p.1 ∧ Hd K g B x.2.2 p.2 := by
  induction h with
  | nil => intro i p e; simp at e
  | @cons k b v dk d ks ps h1 h2 h3 _ ih =>
    intro i p e
    cases i with
    | zero => simp at e; subst e; exact ⟨(k, b, v), rfl, h1, h3⟩
    | succ i =>
      obtain ⟨x, e1, e2, e3⟩ := ih (i := i) (p := p) (by simpa using e)
      exact ⟨x, by simpa using e1, e2, e3⟩
section
variable {X : Cx} {tg it : Expr} {f : SE} {apos cpos : Pos} {w : Bool}
theorem ei_nkeys (h : EV X it f) : EI X tg it (iNKeys f) w := ⟨pi_weak (pi_nkeys h.pe) fun σ H Q h => by
  obtain ⟨g, B, env, t, ds, t', r, e, q⟩ := h
  unfold iNKeys at e
  split at e
  · rename_i d t1 ef
    split at e
    · rename_i ps eu
      cases e
      refine ⟨g, B, env, t, _, _, r, ef, fun v B1 H1 s1 h1 => ?_⟩
      rw [unN_eq eu] at h1
      obtain ⟨a, ob, ks, rfl, e1, dp, dx⟩ := h1.toDX
      refine ⟨a, ob, ks, rfl, s1.bs.sub _ _ e1, dp, q B1 H1 _ s1 ⟨fun i d B2 H2 t2 sb b e => ?_, fun i B2 H2 t2 sb b hl => ⟨b.sub _ _ (sb _ _ e1), by rw [dx.len]; rw [List.length_map] at hl; exact hl⟩⟩⟩
      rw [List.getElem?_map] at e
      obtain ⟨p, ep, rfl⟩ := Option.map_eq_some_iff.mp e
      obtain ⟨x, k1, k2, k3⟩ := dx.at ep
      have hi : i < ks.length := by
        rcases Nat.lt_or_ge i ks.length with z | z
        · exact z
        · rw [List.getElem?_eq_none z] at k1; cases k1
      refine ⟨⟨b.sub _ _ (sb _ _ e1), hi⟩, fun y H3 hy => ?_⟩
      obtain ⟨rfl, z, hz, rfl⟩ := hy
      rw [k1] at hz
      cases hz
      exact ⟨B2, .refl b, .inl (k2.mono sb)⟩
    · cases e
  · cases e⟩
theorem ei_nitems {elts : List Expr} {kk : Nat} {tpos : Pos} (h : EV X it f) (hbase : attributeBase it "items" X.env (eval it X.env) = eval it X.env := by rfl) (hline : (apos.endLine == cpos.line) = true := by rfl) :
    EI X (.Tuple elts kk tpos) (.Call (.Attribute it "items" apos) [] [] cpos) (iNItems f) true := ⟨pi_weak (pi_nitems h.pe hbase hline) fun σ H Q h => by
  obtain ⟨g, B, env, t, ds, t', r, e, q⟩ := h
  unfold iNItems at e
  split at e
  · rename_i d t1 ef
    split at e
    · rename_i ps eu
      cases e
      refine ⟨g, B, env, t, _, _, r, ef, fun v B1 H1 s1 h1 => ?_⟩
      rw [unN_eq eu] at h1
      obtain ⟨a, ob, ks, rfl, e1, dp, dx⟩ := h1.toDX
      refine ⟨a, ob, ks, rfl, s1.bs.sub _ _ e1, dp, q B1 H1 _ s1 ⟨fun i d B2 H2 t2 sb b e => ?_, fun i B2 H2 t2 sb b hl => ⟨b.sub _ _ (sb _ _ e1), by rw [dx.len]; rw [List.length_map] at hl; exact hl⟩⟩⟩
      rw [List.getElem?_map] at e
      obtain ⟨p, ep, rfl⟩ := Option.map_eq_some_iff.mp e
      obtain ⟨x, k1, k2, k3⟩ := dx.at ep
      have hi : i < ks.length := by
        rcases Nat.lt_or_ge i ks.length with z | z
        · exact z
        · rw [List.getElem?_eq_none z] at k1; cases k1
      refine ⟨⟨b.sub _ _ (sb _ _ e1), hi⟩, fun y H3 hy => ?_⟩
      obtain ⟨T, z, hz, rfl, nT, rfl⟩ := hy
      rw [k1] at hz
      cases hz
      have s := Step.new (o := .tup [.ref x.2.1, x.2.2]) b nT
      exact ⟨_, s, .inr ⟨rfl, T, _, _, rfl, rfl, .inl (.inl upd_same), .cons ((k2.mono sb).mono s.b1) (.cons ((k3.mono sb).mono s.b1) .nil)⟩⟩
    · cases e
  · cases e⟩
end

/-! len -/
def rLenN (K : PySem.W.Frag) : List V → Hp → VK → Prop := fun xs H Q => ∃ a g B ob ks ps, xs = [.ref a] ∧ Sub B H ∧ H a = some (obO a ob) ∧ DxP a ob ks ∧ DX K g B ks ps ∧ Q (.int ((ks.length : Nat) : Int)) H
def dLenN : FD
  | [d] => match unN d with
    | some ps => some (.int ps.length)
    | none => none
  | _ => none
section
variable {X : Cx} {a : Expr} {fa : SE} {p pos : Pos}
theorem call_lenN : CallR X (.builtin "len") (rLenN X.K) := by
  intro pins s σ H xs us Q I r h
  obtain ⟨a, g, B, ob, ks, ps, rfl, sb, ea, dp, dx, q⟩ := h
  obtain ⟨u, rfl, rx⟩ := r.one
  obtain rfl : u = .ref a := rx
  obtain ⟨z, hd, ys, rel, dd⟩ := dx_of I sb ea dp dx
  have hl : ks.length = ys.length := Paired.length rel
  refine call_len_dictH hd dd (by rw [← hl]; rw [sizeLine_eq] at z; omega) ?_
  rw [← hl]
  exact ⟨.int ((ks.length : Nat) : Int), H, I.tok _, ⟨_, rfl⟩, q⟩
theorem d_lenN {K : PySem.W.Frag} : CallD K (rLenN K) dLenN := by
  intro g B H t vs ds d Q bs h e q
  unfold dLenN at e
  split at e
  · split at e
    · rename_i ps eu
      cases e
      obtain ⟨v, rfl, hv⟩ := h.one
      rw [unN_eq eu] at hv
      obtain ⟨a, ob, ks, rfl, e1, dp, dx⟩ := hv.toDX
      exact ⟨a, g, B, ob, ks, ps, rfl, bs.sub, bs.sub _ _ e1, dp, dx, by rw [dx.len]; exact q _ B H (.refl bs) (.int _)⟩
    · cases e
  · cases e
theorem ev_lenN (ha : EV X a fa) (hm : X.mg "len" = none) (hg : Gl X "len" := by rfl) (hs : starEach [a] X.env = (false, eval a X.env) :: starEach [] X.env := by rfl) : EV X (.Call (.Name "len" p) [a] [] pos) (cBI dLenN (aCons fa aNil)) :=
  ev_bi call_lenN d_lenN (ea_cons ha ea_nil hs) hm rfl hg (by decide) (by decide) hs
end

/-! max(list), min(list) -/
def allAlike (xs : List D) : Bool := xs.all (fun x => !isN x && xs.all fun y => PySem.W.alike x y)
theorem allAlike_ok {xs : List D} (h : allAlike xs = true) : PySem.W.AlikeAll xs := by
  unfold allAlike at h
  rw [List.all_eq_true] at h
  refine ⟨fun x hx y hy => ?_, fun x hx e => ?_⟩
  · have := h x hx
    rw [Bool.and_eq_true, List.all_eq_true] at this
    exact this.2 y hy
  · have := h x hx
    rw [e, Bool.and_eq_true] at this
    exact nomatch this.1
def rBest (K : PySem.W.Frag) (best : D → List D → D) : List V → Hp → VK → Prop := fun vs H Q => ∃ (l : Addr) (xs : List V) (d : D) (ds : List D), vs = [.ref l] ∧ SqL K H l xs ∧ DpAll K H xs (d :: ds) ∧ PySem.W.AlikeAll (d :: ds) ∧ PyData.plainAll (d :: ds) = true ∧ PyData.depthAll (d :: ds) ≤ 32 ∧
  ∀ (i : Nat) v e, xs[i]? = some v → (d :: ds)[i]? = some e → e = best d ds → Q v H
def dMax1 : FD
  | [.list (d :: ds)] => if PyData.plainAll (d :: ds) = true ∧ allAlike (d :: ds) = true ∧ Nat.ble (PyData.depthAll (d :: ds)) 32 = true then some (PySem.W.maxD d ds) else none
  | _ => none
def dMin1 : FD
  | [.list (d :: ds)] => if PyData.plainAll (d :: ds) = true ∧ allAlike (d :: ds) = true ∧ Nat.ble (PyData.depthAll (d :: ds)) 32 = true then some (PySem.W.minD d ds) else none
  | _ => none
theorem HdL.plainAt {ds : List D} : ∀ {i : Nat} {e : D}, PyData.plainAll ds = true → ds[i]? = some e → e.plain = true := by
  induction ds with
  | nil => intro i e _ h; simp at h
  | cons d ds ih =>
    intro i e h he
    rw [PyData.plainAll, Bool.and_eq_true] at h
    cases i with
    | zero => simp at he; subst he; exact h.1
    | succ i => exact ih h.2 (by simpa using he)
section
variable {X : Cx} {a : Expr} {fa : SE} {p pos : Pos}
theorem best_ok {g : G} {B H : Hp} {t : T} {K : PySem.W.Frag} {best : D → List D → D} {vs : List V} {d0 : D} {ds : List D} {Q : VK} (bs : Base g B H t) (h : HdL K g B vs [.list (d0 :: ds)])
    (c : PyData.plainAll (d0 :: ds) = true ∧ allAlike (d0 :: ds) = true ∧ Nat.ble (PyData.depthAll (d0 :: ds)) 32 = true) (q : ∀ v B' H', Step g B H t B' H' → Hd K g B' v (best d0 ds) → Q v H') : rBest K best vs H Q := by
  obtain ⟨v, rfl, hv⟩ := h.one
  cases hv with
  | @lst l xs _ h1 h2 =>
    refine ⟨l, xs, d0, ds, rfl, SqL.of (bs.sub _ _ h1), h2.dp bs.sub c.1, allAlike_ok c.2.1, c.1, Nat.le_of_ble_eq_true c.2.2, fun i w e hi he eb => ?_⟩
    obtain ⟨e', he', hw⟩ := h2.get' hi
    rw [he] at he'
    cases he'
    exact q w B H (.refl bs) (eb ▸ hw)
theorem call_best {X : Cx} {id : String} {best : D → List D → D} (hc : X.calm = true)
    (rule : ∀ {A : Around} {E : Value → Shared → Prop} {s : Shared} {l : Addr} {vs : Array Value} {x : PyData} {xs : List PyData} {as : List Addr} {Q : Value → Shared → Prop}, A.handled = none → s.heap.IsList l vs → ReadsAll s.heap vs.toList (x :: xs) as → PySem.W.AlikeAll (x :: xs) → A.units + 1 + PyData.depthAll (x :: xs) < cLine →
      (∀ (i : Nat) v h' tk bs, vs[i]? = some v → Reads h' v (best x xs) bs → (∀ b o, s.heap.get? b = some o → h'.get? b = some o) → Q v { s with heap := h', toks := tk }) → wpAny (model X.prog X.w) A (call (.builtin id) [.ref l]) Q E s)
    (hu : X.A.units + 100 < cLine) : CallR X (.builtin id) (rBest X.K best) := by
  intro pins s σ H vs us Q I r h
  obtain ⟨l, xs, d, ds, rfl, hl, hd, ha, hp, hz, q⟩ := h
  obtain ⟨u, rfl, rx⟩ := r.one
  obtain rfl : u = .ref l := rx
  obtain ⟨its, rv, pl, _⟩ := I.list hl
  obtain ⟨as, rs⟩ := Dp.readsAll I (d :: ds) xs its hd rv
  refine rule (vs := its.toArray) (I.ok.hd hc) pl.isList (by simpa using rs) ha (by omega) fun i v h' tk bs hi rd kp => ?_
  have hi' : its[i]? = some v := by simpa using hi
  have I1 : Inv X pins σ H { s with heap := h', toks := tk } := I.kept kp
  have hlen : i < xs.length := by
    rw [rv.length]
    rcases Nat.lt_or_ge i its.length with z | z
    · exact z
    · rw [List.getElem?_eq_none z] at hi'; cases hi'
  obtain ⟨w, hw, rw'⟩ := rv.get (List.getElem?_eq_getElem hlen)
  rw [hi'] at hw
  cases hw
  obtain ⟨cs, r2, i2, _, _⟩ := PySem.W.readsAll_at rs i v hi'
  have hg : (d :: ds)[i]? = some ((d :: ds).getD i .none) := by
    rw [List.getElem?_eq_getElem i2, List.getD_eq_getElem?_getD, List.getElem?_eq_getElem i2]; rfl
  have r3 := Reads.keeps kp r2
  have pe := HdL.plainAt hp hg
  have ee := SeqAt.plain_unique _ _ _ _ _ pe r3 rd
  exact ⟨xs[i], H, I1, rw', q i xs[i] _ (List.getElem?_eq_getElem hlen) hg ee⟩
theorem d_max1 {K : PySem.W.Frag} : CallD K (rBest K PySem.W.maxD) dMax1 := by
  intro g B H t vs ds d Q bs h e q
  unfold dMax1 at e
  split at e
  · split at e
    · rename_i c
      cases e
      exact best_ok bs h c q
    · cases e
  · cases e
theorem d_min1 {K : PySem.W.Frag} : CallD K (rBest K PySem.W.minD) dMin1 := by
  intro g B H t vs ds d Q bs h e q
  unfold dMin1 at e
  split at e
  · split at e
    · rename_i c
      cases e
      exact best_ok bs h c q
    · cases e
  · cases e
theorem ev_max1 (ha : EV X a fa) (hc : X.calm = true) (hu : X.A.units + 100 < cLine) (hm : X.mg "max" = none) (hg : Gl X "max" := by rfl) (hs : starEach [a] X.env = (false, eval a X.env) :: starEach [] X.env := by rfl) : EV X (.Call (.Name "max" p) [a] [] pos) (cBI dMax1 (aCons fa aNil)) :=
  ev_bi (call_best hc (fun a b c d e f => PySem.W.max_list_data a b c d e f) hu) d_max1 (ea_cons ha ea_nil hs) hm rfl hg (by decide) (by decide) hs
theorem ev_min1 (ha : EV X a fa) (hc : X.calm = true) (hu : X.A.units + 100 < cLine) (hm : X.mg "min" = none) (hg : Gl X "min" := by rfl) (hs : starEach [a] X.env = (false, eval a X.env) :: starEach [] X.env := by rfl) : EV X (.Call (.Name "min" p) [a] [] pos) (cBI dMin1 (aCons fa aNil)) :=
  ev_bi (call_best hc (fun a b c d e f => PySem.W.min_list_data a b c d e f) hu) d_min1 (ea_cons ha ea_nil hs) hm rfl hg (by decide) (by decide) hs
end
/-! tuple(range(..)) -/
def tTupRgZ (te : L2.St → Hp → (Int → Int → Hp → Prop) → Prop) : TE := fun σ H Q => te σ H fun a b H1 => RgOk a b ∧ NewT H1 (rgV a b) Q
def cTupRg (f : Env → T → Option (Int × Int × T)) : SE := fun e t => match f e t with
  | some (a, b, t') => if okRg a b = true then some (.tuple (rng a (b - a).toNat), t') else none
  | none => none
section
variable {X : Cx} {e : Expr} {te : L2.St → Hp → (Int → Int → Hp → Prop) → Prop}
theorem pe_tupRgZ {p pos : Pos} (hc : X.calm = true) (hg : Gl X "tuple") (hm : X.mg "tuple" = none) (he : PRg X e te) (na : starEach [e] X.env = (false, eval e X.env) :: starEach [] X.env := by rfl) : PE X (.Call (.Name "tuple" p) [e] [] pos) (tTupRgZ te) := by
  refine ⟨fun pins s σ H Q I h => ?_⟩
  refine Call_ (ld_blt I hg hm boot_tuple (PyProof.Rows.callWith_type1 (args_cons (thn (he pins s σ H _ I h) fun x s1 ⟨r, a, b, t, u, v, H1, ex, hr, I1, ok, q⟩ => args_nil ?_) na) na))
  subst ex
  obtain ⟨b1, b2, b3, b4, b5⟩ := ok
  refine call_tuple_range (n := (b - a).toNat) (I1.ok.hd hc) hr (small_one b1 b2 b3 b4) (rangeSize_nat a b) b5 fun h' tk acc hk hi => ?_
  have I2 : Inv X pins σ H1 { s1 with heap := h', toks := tk } := I1.kept hk
  refine ⟨.ref h'.objs.size, upd H1 h'.objs.size (.frz _ (.tup (rgV a b))), I2.laid (t' := tk) (fun c o e => Heap.get?_push_of_some _ e) (Nat.le_refl _) (show ObjOk X.prog X.w _ _ _ (.frz _ (.tup (rgV a b))) from ⟨Heap.get?_push_size _ rfl, ?_, acc.toList, vals_rg hi, ?_⟩), rfl, q _ _ (I2.hok.fresh (Nat.le_refl _)) ⟨rfl, rfl⟩⟩
  · rw [rgV_length, sizeLine_eq]; omega
  · rw [Array.toArray_toList]; exact IsTup.new _ _
theorem ev_tupRg {a : Expr} {p pos : Pos} {fr : Env → T → Option (Int × Int × T)} (h : ERg X a fr) (hc : X.calm = true) (hm : X.mg "tuple" = none) (hg : Gl X "tuple" := by rfl) (hs : starEach [a] X.env = (false, eval a X.env) :: starEach [] X.env := by rfl) : EV X (.Call (.Name "tuple" p) [a] [] pos) (cTupRg fr) := by
  obtain ⟨t, ht, hw⟩ := h.prg
  refine ⟨pe_weak (pe_tupRgZ hc hg hm ht hs) fun σ H Q h => ?_⟩
  obtain ⟨g, B, env, t, d, t', r, e, q⟩ := h
  unfold cTupRg at e
  split at e
  · rename_i i j t1 e1
    split at e
    · rename_i hok
      cases e
      exact hw σ H _ ⟨g, B, env, t, i, j, _, r, e1, fun B1 H1 s1 => ⟨okRg_ok hok, fun l ob hl od => s1.bs.tup (rgV_hd i j) hl od fun v B2 H2 s2 k => q v B2 H2 (s1.trans r.bs s2) k⟩⟩
    · cases e
  · cases e
end
end PP

namespace PP
open PySem PySem.Spec PyProof.Rows L2

/-! ### expressions that pop from one's own list -/
abbrev SM := Env → T → Option (D × Env × T)
def tDM (K : PySem.W.Frag) (o : List Nat) (f : SM) : TE := fun (σ : Sg) H Q => ∃ g fg B env t d env' t', RepS K g fg o B H σ env t ∧ f env t = some (d, env', t') ∧
  ∀ v B' H', RepS K g fg o B' H' σ env' t' → Sub B B' → Hd K g B' v d → Q v H'
structure EVM (X : Cx) (o : List Nat) (e : Expr) (f : SM) : Prop where
  pe : PE X e (tDM X.K o f)
def mOf (f : SE) : SM := fun e t => match f e t with
  | some (d, t') => some (d, e, t')
  | none => none
def mPop (i : Nat) (f : SE) : SM := fun e t => match f e t with
  | some (.int z, t') => match e[i]? with
    | some (some (.list ds)) => if ds.length ≤ LIM then (match ixN ds.length z with
      | some j => match ds[j]? with
        | some d => some (d, e.set i (some (.list (ds.eraseIdx j))), t')
        | none => none
      | none => none) else none
    | _ => none
  | _ => none
def mBin (op : D → D → Option D) (f h : SM) : SM := fun e t => match f e t with
  | some (x, e1, t1) => match h e1 t1 with
    | some (y, e2, t2) => match op x y with
      | some z => some (z, e2, t2)
      | none => none
    | none => none
  | none => none
abbrev SMA := Env → T → Option (List D × Env × T)
def tDMA (K : PySem.W.Frag) (o : List Nat) (f : SMA) : TA := fun (σ : Sg) H Q => ∃ g fg B env t ds env' t', RepS K g fg o B H σ env t ∧ f env t = some (ds, env', t') ∧
  ∀ vs B' H', RepS K g fg o B' H' σ env' t' → Sub B B' → HdL K g B' vs ds → Q vs H'
structure EAM (X : Cx) (o : List Nat) (es : List Expr) (f : SMA) : Prop where
  pa : PA X es (tDMA X.K o f)
def maNil : SMA := fun e t => some ([], e, t)
def maCons (f : SM) (h : SMA) : SMA := fun e t => match f e t with
  | some (x, e1, t1) => match h e1 t1 with
    | some (xs, e2, t2) => some (x :: xs, e2, t2)
    | none => none
  | none => none
def mTup (f : SMA) : SM := fun e t => match f e t with
  | some (xs, e', t') => if xs.length ≤ LIM then some (.tuple xs, e', t') else none
  | none => none
def sSetM (i : Nat) (f : SM) : SS := fun e t => match f e t with
  | some (d, e', t') => some (.nx (e'.set i (some d)) t')
  | none => none
section
variable {X : Cx} {R : RT} {o : List Nat} {x : Str} {e a b : Expr} {f : SE} {fa fb : SM} {p p2 p3 pos : Pos}
theorem evm_of (h : EVS X o e f) : EVM X o e (mOf f) := ⟨pe_weak h.pe fun σ H Q h => by
  obtain ⟨g, fg, B, env, t, d, env', t', r, e, q⟩ := h
  unfold mOf at e
  split at e
  · rename_i d1 t1 e1
    cases e
    exact ⟨g, fg, B, _, t, d, _, r, e1, q⟩
  · cases e⟩
theorem evm_pop (i : Nat) (h : EVS X o e f) (ho : i ∈ o := by decide) (hN : X.N[i]? = some x := by rfl) (hv : Vis X.env.scope x := by first | exact Or.inl rfl | exact Or.inr (Or.inl rfl) | exact Or.inr (Or.inr rfl)) (hd : (x == ("__debug__" : Str)) = false := by decide) (hcd : (x == ("__classdict__" : Str)) = false := by decide)
    (hbase : attributeBase (.Name x p) "pop" X.env (eval (.Name x p) X.env) = eval (.Name x p) X.env := by rfl)
    (hfew : ((backTo p3 (starEach [e] X.env)).all (fun x => !x.1) && (backToKw p3 (keywordEach [] X.env)).all (fun x => x.1.isSome) && decide ([e].length + ([] : List Keyword).length + (if ([] : List Keyword).isEmpty then 0 else 1) < 30)) = true := by rfl)
    (hline : (p2.endLine == p3.line) = true := by rfl) (hs : starEach [e] X.env = (false, eval e X.env) :: starEach [] X.env := by rfl) :
    EVM X o (.Call (.Attribute (.Name x p) "pop" p2) [e] [] p3) (mPop i f) := ⟨pe_weak (pe_bm PySem.F.plainAttrs_list PySem.F.slot_list_pop PySem.F.type_list_pop mt_popAt (pe_var hN hv hd hcd) (pa_cons h.pe pa_nil hs) hbase hfew hline hs rfl) fun σ H Q h => by
  obtain ⟨g, fg, B, env, t, d, env', t', rp, e, q⟩ := h
  unfold mPop at e
  split at e
  · rename_i z t1 ef
    split at e
    · rename_i ds ei
      split at e
      · rename_i hl
        split at e
        · rename_i j hj
          split at e
          · rename_i dj edj
            cases e
            obtain ⟨p, s1, k1, k2, k3, k4⟩ := rp.own i _ ho ei
            obtain ⟨xs, hx, hd⟩ := k4.list
            refine ⟨_, s1, .inl ⟨rfl, xs, SqL.of hx⟩, g, fg, B, env, t, _, _, rp, ef, fun v B1 H1 r1 sb1 h1 => ?_⟩
            cases h1
            obtain ⟨p', s1', _, _, _, k4'⟩ := r1.own i _ ho ei
            rw [s1] at s1'
            cases s1'
            obtain ⟨xs', hx', hd'⟩ := k4'.list
            obtain ⟨q1, q2, q3, q4⟩ := ixN_seq hj
            have hlen := hd'.len
            have hl3 : ds.length ≤ 100000 := hl
            obtain ⟨y, hy, hyd⟩ := hd'.get edj
            refine ⟨p, xs', z, j, y, rfl, rfl, hx', by omega, by omega, by rw [hlen]; exact q1, hy, ?_⟩
            exact q y B1 _ (r1.mut ho ei s1 (.lst upd_same (hd'.erase j))) sb1 hyd
          · cases e
        · cases e
      · cases e
    · cases e
  · cases e⟩
theorem evm_bin {op : Operator} {r : R2} {φ : D → D → Option D} (hop : OpR X (binaryOp op) r) (hr : OpD X.K r φ) (ha : EVM X o a fa) (hb : EVM X o b fb) : EVM X o (.BinOp a op b pos) (mBin φ fa fb) :=
  ⟨pe_weak (pe_op hop ha.pe hb.pe) fun σ H Q h => by
  obtain ⟨g, fg, B, env, t, d, env', t', rp, e, q⟩ := h
  unfold mBin at e
  split at e
  · rename_i da e1 t1 ea
    split at e
    · rename_i db e2 t2 eb
      split at e
      · rename_i z ez
        cases e
        refine ⟨g, fg, B, env, t, da, e1, t1, rp, ea, fun v B1 H1 r1 s1 h1 => ?_⟩
        refine ⟨g, fg, B1, e1, t1, db, _, _, r1, eb, fun w B2 H2 r2 s2 h2 => ?_⟩
        exact hr g B2 H2 _ v w da db _ Q r2.bs (h1.mono s2) h2 ez fun u B3 H3 s3 h3 => q u B3 H3 (r2.step s3) ((s1.trans s2).trans s3.b1) h3
      · cases e
    · cases e
  · cases e⟩
theorem evm_add (ha : EVM X o a fa) (hb : EVM X o b fb) : EVM X o (.BinOp a .Add b pos) (mBin dAdd fa fb) := evm_bin op_addA d_add ha hb
theorem eam_nil : EAM X o [] maNil := ⟨pa_weak pa_nil fun σ H Q h => by
  obtain ⟨g, fg, B, env, t, d, env', t', r, e, q⟩ := h
  cases e
  exact q [] B H r (.refl _) .nil⟩
theorem eam_cons {es : List Expr} {fs : SMA} (ha : EVM X o a fa) (hr : EAM X o es fs) (hs : starEach (a :: es) X.env = (false, eval a X.env) :: starEach es X.env := by rfl) : EAM X o (a :: es) (maCons fa fs) :=
  ⟨pa_weak (pa_cons ha.pe hr.pa hs) fun σ H Q h => by
  obtain ⟨g, fg, B, env, t, d, env', t', r, e, q⟩ := h
  unfold maCons at e
  split at e
  · rename_i y e1 t1 ea
    split at e
    · rename_i ys e2 t2 eb
      cases e
      refine ⟨g, fg, B, env, t, _, _, _, r, ea, fun v B1 H1 r1 s1 h1 => ?_⟩
      refine ⟨g, fg, B1, e1, t1, _, _, _, r1, eb, fun vs B2 H2 r2 s2 h2 => ?_⟩
      exact q _ B2 H2 r2 (s1.trans s2) (.cons (h1.mono s2) h2)
    · cases e
  · cases e⟩
theorem evm_tup {es : List Expr} {f : SMA} {x1} (h : EAM X o es f) : EVM X o (.Tuple es x1 pos) (mTup f) := ⟨pe_weak (pe_tupZ h.pa) fun σ H Q h => by
  obtain ⟨g, fg, B, env, t, d, env', t', r, e, q⟩ := h
  unfold mTup at e
  split at e
  · rename_i xs e1 t1 ea
    split at e
    · rename_i hl
      cases e
      refine ⟨g, fg, B, env, t, _, _, _, r, ea, fun vs B1 H1 r1 s1 h1 => ⟨by rw [h1.len]; exact lim_le hl, fun p ob np od => ?_⟩⟩
      exact r1.bs.tup h1 np od fun v B2 H2 s2 h2 => q v B2 H2 (r1.step s2) (s1.trans s2.b1) h2
    · cases e
  · cases e⟩
theorem es_setM (i : Nat) {pos' : Pos} {f : SM} (h : EVM X o e f) (hN : X.N.Nodup) (hi : X.N[i]? = some x := by rfl) (hx : Loc X.env.scope x := by first | exact Or.inl rfl | exact Or.inr rfl)
    (hs : swapsWith e (some (.Name x pos')) pos.line X.env = pure false := by rfl) (hf : X.fn x = true ∨ X.env.scope.names.lookup x = some .local := by first | exact .inl rfl | exact .inr rfl) :
    ES X R o (.Assign [.Name x pos'] e pos) (sSetM i f) (o.filter (· ≠ i)) := ⟨ps_weak (ps_set hN hi hx h.pe hs hf) fun E σ H h => by
  obtain ⟨g, fg, B, env, t, r, rp, e, q⟩ := h
  unfold sSetM at e
  split at e
  · rename_i d env' t' ef
    cases e
    exact ⟨g, fg, B, env, t, d, env', t', rp, ef, fun v B' H' r1 _ h1 => q _ B' H' (r1.set h1)⟩
  · cases e⟩
end
/-! x, y = .., list(..) with y one's own -/
section
variable {X : Cx} {R : RT} {a b : Expr} {pos : Pos}
theorem es_parG {i j : Nat} {x y : Str} {fa fb : SE} {px py pt : Pos} {kt k2 pt2} (ha : EV X a fa) (hb : EF X b fb) (hc : X.calm = true) (hN : X.N.Nodup) (hij : i ≠ j := by decide) (hi : X.N[i]? = some x := by rfl) (hj : X.N[j]? = some y := by rfl)
    (hx : X.env.scope.names.lookup x = some .local := by rfl) (hy : X.env.scope.names.lookup y = some .local := by rfl)
    (hsa : starEach [a, b] X.env = (false, eval a X.env) :: starEach [b] X.env := by rfl) (hsb : starEach [b] X.env = (false, eval b X.env) :: starEach [] X.env := by rfl)
    (hw : swappedStores [.Tuple [.Name x px, .Name y py] kt pt] (.Tuple [a, b] k2 pt2) X.env = pure (some [x, y]) := by rfl)
    (hs : swapsWithSole [.Tuple [.Name x px, .Name y py] kt pt] (.Tuple [a, b] k2 pt2) pos.line X.env = pure false := by rfl) :
    ES X R [] (.Assign [.Tuple [.Name x px, .Name y py] kt pt] (.Tuple [a, b] k2 pt2) pos) (sParF i j fa fb) (j :: (([] : List Nat).filter (· ≠ i)).filter (· ≠ j)) :=
  ⟨ps_weak (ps_par hc hN hi hj hij hx hy (pa_cons ha.pe (pa_cons hb.pe pa_nil hsb) hsa) hw hs) fun E σ H h => by
  obtain ⟨g, fg, B, env, t, r, rp, e, q⟩ := h
  unfold sParF at e
  split at e
  · rename_i d1 t1 e1
    split at e
    · rename_i d2 t2 e2
      cases e
      refine ⟨g, B, env, t, d1, t1, rp.rep0, e1, fun v B1 H1 s1 hv => ?_⟩
      refine ⟨g, B1, env, t1, d2, t2, rp.rep0.step s1, e2, fun p B2 H2 s2 hp bp ow => ?_⟩
      refine ⟨v, .ref p, rfl, q _ B2 H2 ?_⟩
      have nt : p ≠ g.ta := (ne_of_none s1.bs.tp hp).symm
      have r1 := (rp.step s1).step s2
      have r2 := r1.set (i := i) (hv.mono s2.b1)
      exact r2.setOwn (i := j) nt bp ((rp.step s1).fresh hp) (fun k d hk => by cases hk) ow
    · cases e
  · cases e⟩
end
/-! d.get(k), list(d) -/
def dNGet1 : D → D → Option D := fun d x => match unN d with
  | some ps => match nkD x with
    | some k => some ((getN ps k).getD .none)
    | none => none
  | none => none
def dNList : FD
  | [d] => match unN d with
    | some ps => some (.list (ps.map (·.1)))
    | none => none
  | _ => none
def tNGet1 (K : PySem.W.Frag) (td ty : TE) : TE := fun σ H Q => td σ H fun x H1 => ∃ a ob ks, x = .ref a ∧ H1 a = some (obO a ob) ∧ DxP a ob ks ∧ ty σ H1 fun y H2 => ∃ r, NGet K H2 a y r ∧ Q (r.getD .non) H2
section
variable {X : Cx} {o e a b : Expr} {apos cpos p pos : Pos} {td ty : TE} {fa fb : SE}
theorem pe_nget1 (hu : X.A.units + 100 < cLine) (ho : PE X o td) (he : PE X e ty) (m : M1 X o "get" apos e cpos) : PE X (.Call (.Attribute o "get" apos) [e] [] cpos) (tNGet1 X.K td ty) := by
  refine ⟨fun pins s σ H Q I h => ?_⟩
  refine wpAny_Call_method m.base m.few m.line PySem.F.plainAttrs_dict PySem.F.slot_dict_get PySem.F.type_dict_get (thn (ho.run pins s σ H _ I h) fun u s1 ⟨x, H1, I1, rx, a, ob, ks, ex, ea, dp, q1⟩ => ?_)
  subst ex
  obtain rfl : u = Value.ref a := rx
  have hg := I1.obO ea
  refine ⟨⟨ob, hg, dp.2.2.1.1⟩, (fun b q => by cases q; exact ⟨ob, hg, dp.2.2.1.2.1⟩), ?_⟩
  rw [m.trees]
  refine wpAny_dict_get1_heap (knd := nestedKind X.prog X.w) (show X.A.units + 1 + 8 < cLine by omega) dp.2.1 (thn (he.run pins s1 σ H1 _ I1 q1) fun iv s2 ⟨y, H2, I2, ry, r, g, q2⟩ => ?_)
  obtain ⟨g, B, ob, ks, ps, kd, k, sb, ea, dp, dx, hk, ek, rfl⟩ := g
  obtain ⟨b, rfl⟩ := hk.nkRef ek
  cases (show iv = Value.ref b from ry)
  obtain ⟨z, hs, xs, r, d⟩ := dx_of I2 sb ea dp dx
  obtain ⟨n1, n2, _⟩ := nkD_of ek
  exact ⟨b, k, xs, rfl, ⟨Hd.nk I2 sb kd _ k _ hk n1 rfl, n2⟩, d, _, H2, I2.tok _, (np_get (k := k) r).getD (d := .non) (d' := .none) rfl, q2⟩
theorem ev_nget1 (ha : EV X a fa) (hb : EV X b fb) (hu : X.A.units + 100 < cLine) (m : M1 X a "get" apos b cpos := by exact ⟨rfl, rfl, rfl, rfl⟩) : EV X (.Call (.Attribute a "get" apos) [b] [] cpos) (cBin dNGet1 fa fb) :=
  ⟨pe_weak (pe_nget1 hu ha.pe hb.pe m) fun σ H Q h => by
  obtain ⟨g, B, env, t, d, t', r, e, q⟩ := h
  unfold cBin at e
  split at e
  · rename_i da t1 ea
    split at e
    · rename_i db t2 eb
      split at e
      · rename_i z ez
        cases e
        unfold dNGet1 at ez
        split at ez
        · rename_i ps eu
          split at ez
          · rename_i k ek
            cases ez
            refine ⟨g, B, env, t, _, t1, r, ea, fun v B1 H1 s1 hv => ?_⟩
            rw [unN_eq eu] at hv
            obtain ⟨a, ob, ks, rfl, h1, dp, dx⟩ := hv.toDX
            refine ⟨a, ob, ks, rfl, s1.bs.sub _ _ h1, dp, g, B1, env, t1, _, _, r.step s1, eb, fun w B2 H2 s2 hw => ?_⟩
            refine ⟨valN ks k, ⟨g, B2, ob, ks, ps, db, k, s2.bs.sub, s2.bs.sub _ _ (s2.b1 _ _ h1), dp, dx.mono s2.b1, hw, ek, rfl⟩, ?_⟩
            rcases dx.get k with ⟨z1, z2⟩ | ⟨v, d2, z1, z2, z3⟩
            · rw [z1]
              rw [z2] at q
              exact q _ B2 H2 (s1.trans r.bs s2) .non
            · rw [z1]
              rw [z2] at q
              exact q _ B2 H2 (s1.trans r.bs s2) (z3.mono s2.b1)
          · cases ez
        · cases ez
      · cases e
    · cases e
  · cases e⟩
def rListN (K : PySem.W.Frag) : List V → Hp → VK → Prop := fun xs H Q => ∃ a ob ks, xs = [.ref a] ∧ H a = some (obO a ob) ∧ DxP a ob ks ∧ ∀ p, H p = none → Q (.ref p) (upd H p (.lst (ks.map fun x => .ref x.2.1)))
theorem vals_map {ks : List NK} : Vals (ks.map fun x => V.ref x.2.1) (ks.map fun x => Value.ref x.2.1) := by
  induction ks with
  | nil => exact .nil
  | cons x ks ih => exact .cons rfl ih
theorem call_listN (hc : X.calm = true) : CallR X (.type "list") (rListN X.K) := by
  intro pins s σ H xs us Q I r h
  obtain ⟨d, ob, ks, rfl, hd, dp, q⟩ := h
  obtain ⟨u, rfl, rx⟩ := r.one
  cases rx
  obtain ⟨es, ep, hdt, hsz, ent⟩ := dp.raw X.w
  have hz := dp.1
  refine PySem.W.kdl_call (kdl_raw dp.2.1 dp.2.2.1 hdt) (I.ok.hd hc) (I.obO hd) (by omega) fun h' tk acc' c' kp e it => ?_
  have eb : acc'.toList = ks.map fun x => Value.ref x.2.1 := by
    apply List.ext_getElem?
    intro j
    rw [List.getElem?_map]
    have hl : acc'.toList.length = ks.length := by rw [Array.length_toList, it.1]; exact hsz
    cases hj : acc'.toList[j]? with
    | none =>
      have h1 := List.getElem?_eq_none_iff.mp hj
      rw [List.getElem?_eq_none (by omega)]
      rfl
    | some v =>
      obtain ⟨en, hen, hv⟩ := it.2 j v (by rw [← Array.getElem?_toList]; exact hj)
      have hjl : j < ks.length := by
        rcases Nat.lt_or_ge j ks.length with z | z
        · exact z
        · rw [List.getElem?_eq_none (by omega)] at hj; cases hj
      obtain ⟨en', hen', hk, _⟩ := ent j ks[j] (List.getElem?_eq_getElem hjl)
      rw [hen] at hen'
      cases hen'
      rw [List.getElem?_eq_getElem hjl, hv, hk]
      rfl
  have rv : Vals (ks.map fun x => V.ref x.2.1) acc'.toList := by rw [eb]; exact vals_map
  refine ⟨.ref s.heap.objs.size, _, I.laid (t' := tk) (o := .lst (ks.map fun x => V.ref x.2.1)) kp (Nat.le_refl _) ?_, rfl, q _ (I.hok.fresh (Nat.le_refl _))⟩
  exact ⟨by rw [List.length_map]; exact hz, acc'.toList, c', rv, by rw [Array.toArray_toList]; exact e⟩
theorem DX.keys {K : PySem.W.Frag} {g : G} {B : Hp} {ks : List NK} {ps : List (D × D)} (h : DX K g B ks ps) : HdL K g B (ks.map fun x => V.ref x.2.1) (ps.map (·.1)) := by
  induction h with
  | nil => exact .nil
  | cons h1 _ _ _ ih => exact .cons h1 ih
theorem d_listN {K : PySem.W.Frag} : CallF K (rListN K) dNList := by
  intro g B H t vs ds d Q bs h e q
  unfold dNList at e
  split at e
  · split at e
    · rename_i ps eu
      cases e
      obtain ⟨v, rfl, hv⟩ := h.one
      rw [unN_eq eu] at hv
      obtain ⟨a, ob, ks, rfl, e1, dp, dx⟩ := hv.toDX
      exact ⟨a, ob, ks, rfl, bs.sub _ _ e1, dp, fun l hl => bs.lstF dx.keys hl q⟩
    · cases e
  · cases e
theorem ef_nlist (ha : EV X a fa) (hc : X.calm = true) (hm : X.mg "list" = none) (hg : Gl X "list" := by rfl) (hs : starEach [a] X.env = (false, eval a X.env) :: starEach [] X.env := by rfl) : EF X (.Call (.Name "list" p) [a] [] pos) (cBI dNList (aCons fa aNil)) :=
  ef_bt (call_listN hc) d_listN (ea_cons ha ea_nil hs) hm rfl hg (by decide) (by decide) hs
end
end PP

namespace PP
open PySem PySem.Spec PyProof.Rows L2

/-! ### how a meaning is worked out -/
def rngZ (j : Int) : List D := rng 0 j.toNat
@[simp] theorem rngZ_nat (n : Nat) : rngZ (n : Int) = rng 0 n := by unfold rngZ; rw [Int.toNat_natCast]
def rngW (a b : Int) : List D := rng a (b - a).toNat
@[simp] theorem rngW_nat (n : Nat) : rngW 0 (n : Int) = rng 0 n := by unfold rngW; rw [Int.sub_zero, Int.toNat_natCast]
theorem okI_of {j : Int} (h0 : -1000000000000000000 ≤ j) (h1 : j ≤ 1000000000000000000) : okI j = true := leN_of (by omega)
theorem okI_len {n : Nat} (h : n ≤ LIM) : okI (n : Int) = true := okI_of (by omega) (by have h : n ≤ 100000 := h; omega)
section
variable {f h k : SE} {a b : SA} {c c2 : ST} {s s2 : SS} {e : Env} {t : T}
@[simp] theorem a_sSkip : sSkip e t = some (.nx e t) := rfl
@[simp] theorem a_sSeq : sSeq s s2 e t = match s e t with
  | some (.nx e1 t1) => s2 e1 t1
  | some (.rt d t1) => some (.rt d t1)
  | none => none := rfl
@[simp] theorem a_sSet {i : Nat} : sSet i f e t = match f e t with
  | some (d, t') => some (.nx (e.set i (some d)) t')
  | none => none := rfl
@[simp] theorem a_sRet : sRet f e t = match f e t with
  | some (d, t') => some (.rt d t')
  | none => none := rfl
@[simp] theorem a_sIf : sIf c s s2 e t = match c e t with
  | some (true, t') => s e t'
  | some (false, t') => s2 e t'
  | none => none := rfl
@[simp] theorem a_sPar {is : List Nat} : sPar is a e t = match a e t with
  | some (ds, t') => if ds.length = is.length then some (.nx (setsE e is ds) t') else none
  | none => none := rfl
@[simp] theorem a_sBind {is : List Nat} {sp : SG} : sBind is sp f e t = match f e t with
  | some (d, t') => match sp d with
    | some ds => some (.nx (setsE e is ds) t')
    | none => none
  | none => none := rfl
@[simp] theorem a_sFor {src : SA} {is : List Nat} {sp : SG} : sFor src is sp s e t = match src e t with
  | some (ds, t') => loopS is sp s ds e t'
  | none => none := rfl
@[simp] theorem a_cVar {i : Nat} : cVar i e t = match e[i]? with
  | some (some d) => some (d, t)
  | _ => none := rfl
@[simp] theorem a_cC {d : D} : cC d e t = some (d, t) := rfl
@[simp] theorem a_cTest : cTest f e t = match f e t with
  | some (.bool b, t') => some (b, t')
  | _ => none := rfl
@[simp] theorem a_cNot : cNot c e t = match c e t with
  | some (b, t') => some (!b, t')
  | none => none := rfl
@[simp] theorem a_cAndT : cAndT c c2 e t = match c e t with
  | some (true, t') => c2 e t'
  | some (false, t') => some (false, t')
  | none => none := rfl
@[simp] theorem a_cOrT : cOrT c c2 e t = match c e t with
  | some (true, t') => some (true, t')
  | some (false, t') => c2 e t'
  | none => none := rfl
@[simp] theorem a_cIf : cIf c f h e t = match c e t with
  | some (true, t') => f e t'
  | some (false, t') => h e t'
  | none => none := rfl
@[simp] theorem a_cBin {op : D → D → Option D} : cBin op f h e t = match f e t with
  | some (x, t1) => match h e t1 with
    | some (y, t2) => match op x y with
      | some z => some (z, t2)
      | none => none
    | none => none
  | none => none := rfl
@[simp] theorem a_cBI {φ : FD} : cBI φ a e t = match a e t with
  | some (ds, t') => match φ ds with
    | some d => some (d, t')
    | none => none
  | none => none := rfl
@[simp] theorem a_cCall {φ : SF} : cCall φ a e t = match a e t with
  | some (xs, t') => φ xs t'
  | none => none := rfl
@[simp] theorem a_aCons : aCons f a e t = match f e t with
  | some (x, t1) => match a e t1 with
    | some (xs, t2) => some (x :: xs, t2)
    | none => none
  | none => none := rfl
@[simp] theorem a_cTup : cTup a e t = match a e t with
  | some (xs, t') => if xs.length ≤ LIM then some (.tuple xs, t') else none
  | none => none := rfl
@[simp] theorem a_cLst : cLst a e t = match a e t with
  | some (xs, t') => if xs.length ≤ LIM then some (.list xs, t') else none
  | none => none := rfl
@[simp] theorem a_cUn {op : D → Option D} : cUn op f e t = match f e t with
  | some (d, t') => match op d with
    | some z => some (z, t')
    | none => none
  | none => none := rfl
@[simp] theorem a_useV {o : List Nat} : useV o f e t = f (hide o e) t := rfl
@[simp] theorem a_useB : useB f e t = match f e t with
  | some (d, t') => if atomic d = true then some (d, t') else none
  | none => none := rfl
@[simp] theorem a_cAnd : cAnd f h e t = match f e t with
  | some (.bool true, t') => h e t'
  | some (.bool false, t') => some (.bool false, t')
  | _ => none := rfl
@[simp] theorem a_cOr : cOr f h e t = match f e t with
  | some (.bool true, t') => some (.bool true, t')
  | some (.bool false, t') => h e t'
  | _ => none := rfl
@[simp] theorem a_cNotV : cNotV f e t = match f e t with
  | some (.bool b, t') => some (.bool (!b), t')
  | _ => none := rfl
@[simp] theorem a_cNeg : cNeg f e t = match f e t with
  | some (.int i, t') => some (.int (-i), t')
  | _ => none := rfl
@[simp] theorem a_cIsN {neg : Bool} : cIsN neg f e t = match f e t with
  | some (d, t') => some (.bool (if neg then !isN d else isN d), t')
  | none => none := rfl
@[simp] theorem a_iTupl : iTupl f e t = match f e t with
  | some (.tuple ds, t') => some (ds, t')
  | _ => none := rfl
@[simp] theorem a_iLst : iLst f e t = match f e t with
  | some (.list ds, t') => some (ds, t')
  | _ => none := rfl
@[simp] theorem a_iR1 : iR1 f e t = match f e t with
  | some (.int j, t') => if okI j = true then some (rngZ j, t') else none
  | _ => none := rfl
@[simp] theorem a_cIsi {tys : List Ty} : cIsi tys f e t = match f e t with
  | some (d, t') => if noDict d = true then some (.bool (tys.any fun y => isTy y d), t') else none
  | none => none := rfl
@[simp] theorem a_oAt : oAt f e t = match f e t with
  | some (.int i, t') => some (some i, t')
  | _ => none := rfl
@[simp] theorem a_cSl {lo hi : Env → T → Option (Option Int × T)} : cSl f lo hi e t = match f e t with
  | some (d, t1) => match lo e t1 with
    | some (l, t2) => match hi e t2 with
      | some (h, t3) => match dSl d l h with
        | some z => some (z, t3)
        | none => none
      | none => none
    | none => none
  | none => none := rfl
@[simp] theorem a_cSl3 {lo hi st : Env → T → Option (Option Int × T)} : cSl3 f lo hi st e t = match f e t with
  | some (d, t1) => match lo e t1 with
    | some (l, t2) => match hi e t2 with
      | some (h, t3) => match st e t3 with
        | some (c, t4) => match dPick d l h c with
          | some z => some (z, t4)
          | none => none
        | none => none
      | none => none
    | none => none
  | none => none := rfl
@[simp] theorem a_cLstRg {g : Env → T → Option (Int × Int × T)} : cLstRg g e t = match g e t with
  | some (a, b, t') => if okRg a b = true then some (.list (rngW a b), t') else none
  | none => none := rfl
@[simp] theorem a_cRg1 : cRg1 f e t = match f e t with
  | some (.int n, t') => some (0, n, t')
  | _ => none := rfl
@[simp] theorem a_cRg2 : cRg2 f h e t = match f e t with
  | some (.int i, t1) => match h e t1 with
    | some (.int j, t') => some (i, j, t')
    | _ => none
  | _ => none := rfl
@[simp] theorem a_cTi {i : Nat} : cTi i e t = match e[i]? with
  | some (some (.dict [(.none, .none)])) => some (.int t.i, t)
  | _ => none := rfl
@[simp] theorem a_cTj {i : Nat} : cTj i e t = match e[i]? with
  | some (some (.dict [(.none, .none)])) => some (.int t.j, t)
  | _ => none := rfl
@[simp] theorem a_cTn {i : Nat} : cTn i e t = match e[i]? with
  | some (some (.dict [(.none, .none)])) => some (.list (t.ns.map .int), t)
  | _ => none := rfl
@[simp] theorem a_sTi {i : Nat} : sTi i f e t = match f e t with
  | some (.int v, t') => match e[i]? with
    | some (some (.dict [(.none, .none)])) => some (.nx e { t' with i := v })
    | _ => none
  | _ => none := rfl
@[simp] theorem a_sTj {i : Nat} : sTj i f e t = match f e t with
  | some (.int v, t') => match e[i]? with
    | some (some (.dict [(.none, .none)])) => some (.nx e { t' with j := v })
    | _ => none
  | _ => none := rfl
@[simp] theorem a_sApp {i : Nat} : sApp i f e t = match f e t with
  | some (d, t') => match e[i]? with
    | some (some (.list ds)) => if ds.length < LIM then some (.nx (e.set i (some (.list (ds ++ [d])))) t') else none
    | _ => none
  | none => none := rfl
@[simp] theorem a_sExt {i : Nat} : sExt i f e t = match f e t with
  | some (.list es, t') => (match e[i]? with
    | some (some (.list ds)) => if ds.length + es.length ≤ LIM then some (.nx (e.set i (some (.list (ds ++ es)))) t') else none
    | _ => none)
  | some (.tuple es, t') => (match e[i]? with
    | some (some (.list ds)) => if ds.length + es.length ≤ LIM then some (.nx (e.set i (some (.list (ds ++ es)))) t') else none
    | _ => none)
  | _ => none := rfl
@[simp] theorem a_sStore {i : Nat} : sStore i f k e t = match f e t with
  | some (d, t1) => match k e t1 with
    | some (.int z, t2) => match e[i]? with
      | some (some (.list ds)) => match ixN ds.length z with
        | some j => some (.nx (e.set i (some (.list (ds.set j d)))) t2)
        | none => none
      | _ => none
    | _ => none
  | none => none := rfl
@[simp] theorem a_aStar : aStar f a e t = match f e t with
  | some (.list xs, t1) => (match a e t1 with
    | some (ys, t2) => some (xs ++ ys, t2)
    | none => none)
  | some (.tuple xs, t1) => (match a e t1 with
    | some (ys, t2) => some (xs ++ ys, t2)
    | none => none)
  | _ => none := rfl
@[simp] theorem a_cComp {src : SA} {vs is : List Nat} {sp : SG} : cComp src vs is sp c f e t = match src e t with
  | some (ds, t1) => match compL is sp c f ds (hide vs e) t1 with
    | some (ys, t2) => if ys.length ≤ LIM then some (.list ys, t2) else none
    | none => none
  | none => none := rfl
@[simp] theorem a_cComp2 {src src1 : SA} {vs is vs1 is1 : List Nat} {sp sp1 : SG} : cComp2 src vs is sp c src1 vs1 is1 sp1 c2 f e t = match src e t with
  | some (ds, t1) => match compL2 is sp c src1 vs1 is1 sp1 c2 f ds (hide vs e) t1 with
    | some (ys, t2) => if ys.length ≤ LIM then some (.list ys, t2) else none
    | none => none
  | none => none := rfl
@[simp] theorem a_iR2 : iR2 f h e t = match f e t with
  | some (.int i, t1) => match h e t1 with
    | some (.int j, t') => if okI i = true ∧ okI j = true then some (rng i (j - i).toNat, t') else none
    | _ => none
  | _ => none := rfl
@[simp] theorem a_cDIn {neg : Bool} {i : Nat} : cDIn neg f i e t = match f e t with
  | some (x, t') => match keyOf x with
    | some k => match e[i]? with
      | some (some (.dict ps)) => if nmk ps = true then some (.bool (if neg then !(getD ps k).isSome else (getD ps k).isSome), t') else none
      | _ => none
    | none => none
  | none => none := rfl
@[simp] theorem a_sDPutE {i : Nat} : sDPutE i f k e t = match f e t with
  | some (d, t1) => match k e t1 with
    | some (x, t2) => match keyOf x with
      | some k => match e[i]? with
        | some (some (.dict ps)) => if ps.length < LIM ∧ nmk ps = true then some (.nx (e.set i (some (.dict (putD ps k d)))) t2) else none
        | _ => none
      | none => none
    | none => none
  | none => none := rfl
@[simp] theorem a_sParD {i j : Nat} : sParD i j f e t = match f e t with
  | some (d, t') => some (.nx ((e.set i (some d)).set j (some (.dict []))) t')
  | none => none := rfl
@[simp] theorem a_cNInO {neg : Bool} {i : Nat} : cNInO neg f i e t = match f e t with
  | some (x, t') => match nkD x with
    | some k => match e[i]? with
      | some (some d) => match unN d with
        | some ps => some (.bool (if neg then !(getN ps k).isSome else (getN ps k).isSome), t')
        | none => none
      | _ => none
    | none => none
  | none => none := rfl
@[simp] theorem a_sNPut {i : Nat} : sNPut i f k e t = match f e t with
  | some (d, t1) => match k e t1 with
    | some (x, t2) => match nkD x with
      | some k => match e[i]? with
        | some (some dd) => match unN dd with
          | some ps => if ps.length < LIM then some (.nx (e.set i (some (.dict (mkP :: putN ps x k d)))) t2) else none
          | none => none
        | _ => none
      | none => none
    | none => none
  | none => none := rfl
@[simp] theorem a_cNDisp : cNDisp k f e t = match k e t with
  | some (x, t1) => match f e t1 with
    | some (y, t2) => match nkD x with
      | some _ => some (.dict [mkP, (x, y)], t2)
      | none => none
    | none => none
  | none => none := rfl
@[simp] theorem a_cTupRg {r : Env → T → Option (Int × Int × T)} : cTupRg r e t = match r e t with
  | some (a, b, t') => if okRg a b = true then some (.tuple (rng a (b - a).toNat), t') else none
  | none => none := rfl
@[simp] theorem a_cNNew : cNNew e t = some (.dict [mkP], t) := rfl
@[simp] theorem a_sParF {i j : Nat} : sParF i j f h e t = match f e t with
  | some (d1, t1) => match h e t1 with
    | some (d2, t2) => some (.nx ((e.set i (some d1)).set j (some d2)) t2)
    | none => none
  | none => none := rfl
@[simp] theorem a_mOf : mOf f e t = match f e t with
  | some (d, t') => some (d, e, t')
  | none => none := rfl
@[simp] theorem a_mPop {i : Nat} : mPop i f e t = match f e t with
  | some (.int z, t') => match e[i]? with
    | some (some (.list ds)) => if ds.length ≤ LIM then (match ixN ds.length z with
      | some j => match ds[j]? with
        | some d => some (d, e.set i (some (.list (ds.eraseIdx j))), t')
        | none => none
      | none => none) else none
    | _ => none
  | _ => none := rfl
@[simp] theorem a_mBin {op : D → D → Option D} {m m2 : SM} : mBin op m m2 e t = match m e t with
  | some (x, e1, t1) => match m2 e1 t1 with
    | some (y, e2, t2) => match op x y with
      | some z => some (z, e2, t2)
      | none => none
    | none => none
  | none => none := rfl
@[simp] theorem a_maNil : maNil e t = some ([], e, t) := rfl
@[simp] theorem a_maCons {m : SM} {q : SMA} : maCons m q e t = match m e t with
  | some (x, e1, t1) => match q e1 t1 with
    | some (xs, e2, t2) => some (x :: xs, e2, t2)
    | none => none
  | none => none := rfl
@[simp] theorem a_mTup {q : SMA} : mTup q e t = match q e t with
  | some (xs, e', t') => if xs.length ≤ LIM then some (.tuple xs, e', t') else none
  | none => none := rfl
@[simp] theorem a_sSetM {i : Nat} {m : SM} : sSetM i m e t = match m e t with
  | some (d, e', t') => some (.nx (e'.set i (some d)) t')
  | none => none := rfl
@[simp] theorem dNList_mk {ps : List (D × D)} : dNList [.dict (mkP :: ps)] = some (.list (ps.map (·.1))) := rfl
@[simp] theorem unN_mk {ps : List (D × D)} : unN (.dict (mkP :: ps)) = some ps := rfl
@[simp] theorem a_iNKeys : iNKeys f e t = match f e t with
  | some (d, t') => match unN d with
    | some ps => some (ps.map (·.1), t')
    | none => none
  | none => none := rfl
@[simp] theorem a_iNItems : iNItems f e t = match f e t with
  | some (d, t') => match unN d with
    | some ps => some (ps.map (fun p => .tuple [p.1, p.2]), t')
    | none => none
  | none => none := rfl
@[simp] theorem dLenN_mk {ps : List (D × D)} : dLenN [.dict (mkP :: ps)] = some (.int ps.length) := rfl
@[simp] theorem a_sParL {i j : Nat} : sParL i j f e t = match f e t with
  | some (d, t') => some (.nx ((e.set i (some d)).set j (some (.list []))) t')
  | none => none := rfl
@[simp] theorem a_cDisp {kvs : List (Str × Str)} : cDisp kvs e t = some (.dict (dMrg kvs []), t) := rfl
@[simp] theorem a_keyI {i : Int} : keyOf (.int i) = some (.inl i) := rfl
@[simp] theorem a_sPopAt {i : Nat} : sPopAt i f e t = match f e t with
  | some (.int z, t') => match e[i]? with
    | some (some (.list ds)) => if ds.length ≤ LIM then (match ixN ds.length z with
      | some j => some (.nx (e.set i (some (.list (ds.eraseIdx j)))) t')
      | none => none) else none
    | _ => none
  | _ => none := rfl
@[simp] theorem a_sIns {i : Nat} : sIns i k f e t = match k e t with
  | some (.int z, t1) => match f e t1 with
    | some (d, t2) => match e[i]? with
      | some (some (.list ds)) => if 0 ≤ z ∧ leN z 1000000 = true ∧ ds.length < LIM then some (.nx (e.set i (some (.list (ds.take z.toNat ++ [d] ++ ds.drop z.toNat)))) t2) else none
      | _ => none
    | none => none
  | _ => none := rfl
@[simp] theorem a_cChain {f1 f2 : D → D → Option D} {g : SE} : cChain f1 f2 f h g e t = match f e t with
  | some (x, t1) => match h e t1 with
    | some (y, t2) => match f1 x y with
      | some (.bool true) => (match g e t2 with
        | some (z, t3) => (match f2 y z with
          | some r => some (r, t3)
          | none => none)
        | none => none)
      | some (.bool false) => some (.bool false, t2)
      | _ => none
    | none => none
  | none => none := rfl
@[simp] theorem a_aStarRg {g : Env → T → Option (Int × Int × T)} : aStarRg g a e t = match g e t with
  | some (i, j, t1) => if okRg i j = true then (match a e t1 with
    | some (ys, t2) => some (rngW i j ++ ys, t2)
    | none => none) else none
  | none => none := rfl
@[simp] theorem a_cDispE {kvs : List (Str × SE)} : cDispE kvs e t = match valsE kvs e t with
  | some (q, t') => some (.dict (dMrgE q []), t')
  | none => none := rfl
@[simp] theorem a_cSplit : cSplit f h e t = match f e t with
  | some (.str a, t1) => match h e t1 with
    | some (.str b, t2) => if (b.length == 0) = false ∧ a.length ≤ LIM then some (.list ((Txt.split a b).map PyData.str), t2) else none
    | _ => none
  | _ => none := rfl
@[simp] theorem a_cFmt : cFmt f e t = match f e t with
  | some (.str y, t1) => if y.length ≤ LIM then some (.str y, t1) else none
  | some (.int i, t1) => if leN i 18446744073709551615 = true then some (.str (toString i), t1) else none
  | _ => none := rfl
@[simp] theorem a_js0 {acc : Str} : jsE [] acc e t = some (acc, t) := rfl
@[simp] theorem a_js1 {fs : List SE} {acc : Str} : jsE (f :: fs) acc e t = match f e t with
  | some (.str y, t1) => if (acc ++ y).length ≤ LIM then jsE fs (acc ++ y) e t1 else none
  | _ => none := rfl
@[simp] theorem a_cJs {fs : List SE} : cJs fs e t = match jsE fs Str.empty e t with
  | some (y, t1) => some (.str y, t1)
  | none => none := rfl
@[simp] theorem a_cOwnIx {i : Nat} : cOwnIx i f e t = match f e t with
  | some (.int z, t1) => (match e[i]? with
    | some (some (.list ds)) => (match atI ds z with
      | some d => some (d, t1)
      | none => none)
    | _ => none)
  | _ => none := rfl
@[simp] theorem a_vals0 : valsE [] e t = some ([], t) := rfl
@[simp] theorem a_vals1 {k : Str} {kvs : List (Str × SE)} : valsE ((k, f) :: kvs) e t = match f e t with
  | some (d, t1) => match valsE kvs e t1 with
    | some (q, t2) => some ((k, d) :: q, t2)
    | none => none
  | none => none := rfl
@[simp] theorem a_aNil : aNil e t = some ([], t) := rfl
@[simp] theorem a_oNo : oNo e t = some (none, t) := rfl
@[simp] theorem a_cYes : cYes e t = some (true, t) := rfl
@[simp] theorem a_spN {d : D} : spN d = some [d] := rfl
@[simp] theorem a_loop0 {is : List Nat} {sp : SG} : loopS is sp s [] e t = some (.nx e t) := rfl
@[simp] theorem a_hide0 : hide [] e = e := rfl
@[simp] theorem a_hide1 {i : Nat} {o : List Nat} : hide (i :: o) e = (hide o e).set i none := rfl
@[simp] theorem a_sets0 : setsE e [] [] = e := rfl
@[simp] theorem a_sets1 {i : Nat} {is : List Nat} {d : D} {ds : List D} : setsE e (i :: is) (d :: ds) = setsE (e.set i (some d)) is ds := rfl
@[simp] theorem a_add {i j : Int} : dAdd (.int i) (.int j) = some (.int (i + j)) := rfl
@[simp] theorem a_sub {i j : Int} : dSub (.int i) (.int j) = some (.int (i - j)) := rfl
@[simp] theorem a_mul {i j : Int} : dMul (.int i) (.int j) = if okMul i j = true then some (.int (i * j)) else none := rfl
@[simp] theorem a_div {i j : Int} : dDiv (.int i) (.int j) = if okDv j = true then some (.int (i / j)) else none := rfl
@[simp] theorem a_mod {i j : Int} : dMod (.int i) (.int j) = if 0 < j then some (.int (i % j)) else none := rfl
@[simp] theorem a_pow {i j : Int} : dPow (.int i) (.int j) = if 0 ≤ j ∧ j ≤ 1000 ∧ i.natAbs < 2 ^ 64 then some (.int (i ^ j.toNat)) else none := rfl
@[simp] theorem a_cmp {p : Int → Int → Bool} {i j : Int} : dCmp p (.int i) (.int j) = some (.bool (p i j)) := rfl
@[simp] theorem a_ixL {xs : List D} {i : Int} : dIx (.list xs) (.int i) = atI xs i := rfl
@[simp] theorem a_ixT {xs : List D} {i : Int} : dIx (.tuple xs) (.int i) = atI xs i := rfl
@[simp] theorem a_lenL {xs : List D} : dLen [.list xs] = some (.int xs.length) := rfl
@[simp] theorem a_lenT {xs : List D} : dLen [.tuple xs] = some (.int xs.length) := rfl
@[simp] theorem a_int {i : Int} : dInt [.int i] = some (.int i) := rfl
@[simp] theorem a_intB {b : Bool} : dInt [.bool b] = some (.int (if b then 1 else 0)) := rfl
@[simp] theorem a_list1 {xs : List D} : dList [.list xs] = some (.list xs) := rfl
@[simp] theorem a_list2 {xs : List D} : dList [.tuple xs] = some (.list xs) := rfl
@[simp] theorem a_tup1 {xs : List D} : dTup [.list xs] = some (.tuple xs) := rfl
@[simp] theorem a_tup2 {xs : List D} : dTup [.tuple xs] = some (.tuple xs) := rfl
@[simp] theorem a_okMul1 {j : Int} : okMul 2 j = true := rfl
@[simp] theorem a_okDv2 : okDv 2 = true := rfl
@[simp] theorem a_start {N : Nat} {ds : List D} : startE N ds = ds.map some ++ List.replicate (N - ds.length) none := rfl
end

/-! ### walks of loops -/
theorem loop_fold {α σ : Type} {is : List Nat} {sp : SG} {body : SS} (dat : α → D) (st : σ → Env) (nx : σ → α → σ) (I : σ → Prop) (J : α → Prop)
    (h : ∀ s a t, I s → J a → ∃ ds, sp (dat a) = some ds ∧ body (setsE (st s) is ds) t = some (.nx (st (nx s a)) t) ∧ I (nx s a)) :
    ∀ (l : List α) (s : σ) (t : T), I s → (∀ a ∈ l, J a) → loopS is sp body (l.map dat) (st s) t = some (.nx (st (l.foldl nx s)) t)
  | [], s, t, _, _ => rfl
  | a :: l, s, t, hi, hj => by
    obtain ⟨ds, h1, h2, h3⟩ := h s a t hi (hj a (by simp))
    show (match sp (dat a) with
      | none => none
      | some ds => match body (setsE (st s) is ds) t with
        | some (.nx e2 t2) => loopS is sp body (l.map dat) e2 t2
        | some (.rt d t2) => some (.rt d t2)
        | none => none) = _
    simp only [h1, h2]
    exact loop_fold dat st nx I J h l _ t h3 fun b hb => hj b (by simp [hb])
theorem fold_fst {α β γ : Type} (f : β → α → β) (g : β → α → γ) : ∀ (l : List α) (s : β × γ), (l.foldl (fun (s : β × γ) a => (f s.1 a, g s.1 a)) s).1 = l.foldl f s.1
  | [], _ => rfl
  | a :: l, s => fold_fst f g l (f s.1 a, g s.1 a)
theorem loop_inv {is : List Nat} {sp : SG} {body : SS} {I : Env → T → Prop} : ∀ (l : List D) (e : Env) (t : T)
    (h : ∀ d ∈ l, ∀ e t, I e t → ∃ ds e2 t2, sp d = some ds ∧ body (setsE e is ds) t = some (.nx e2 t2) ∧ I e2 t2), I e t → ∃ e2 t2, loopS is sp body l e t = some (.nx e2 t2) ∧ I e2 t2
  | [], e, t, _, hi => ⟨e, t, rfl, hi⟩
  | d :: l, e, t, h, hi => by
    obtain ⟨ds, e2, t2, h1, h2, h3⟩ := h d (by simp) e t hi
    obtain ⟨e3, t3, h4, h5⟩ := loop_inv l e2 t2 (fun d hd => h d (by simp [hd])) h3
    refine ⟨e3, t3, ?_, h5⟩
    show (match sp d with
      | none => none
      | some ds => match body (setsE e is ds) t with
        | some (.nx e2 t2) => loopS is sp body l e2 t2
        | some (.rt d t2) => some (.rt d t2)
        | none => none) = _
    simp only [h1, h2, h4]
theorem loop_invN {is : List Nat} {sp : SG} {body : SS} {I : Nat → Env → T → Prop} : ∀ (l : List D) (k : Nat) (e : Env) (t : T)
    (h : ∀ i d, l[i]? = some d → ∀ e t, I (k + i) e t → ∃ ds e2 t2, sp d = some ds ∧ body (setsE e is ds) t = some (.nx e2 t2) ∧ I (k + i + 1) e2 t2), I k e t → ∃ e2 t2, loopS is sp body l e t = some (.nx e2 t2) ∧ I (k + l.length) e2 t2
  | [], k, e, t, _, hi => ⟨e, t, rfl, hi⟩
  | d :: l, k, e, t, h, hi => by
    obtain ⟨ds, e2, t2, h1, h2, h3⟩ := h 0 d rfl e t hi
    obtain ⟨e3, t3, h4, h5⟩ := loop_invN (I := I) l (k + 1) e2 t2 (fun i d hd e t hi => by
      have hh := h (i + 1) d (by simpa using hd) e t (by rw [show k + (i + 1) = k + 1 + i by omega]; exact hi)
      rw [show k + (i + 1) + 1 = k + 1 + i + 1 by omega] at hh
      exact hh) h3
    refine ⟨e3, t3, ?_, by rw [List.length_cons, show k + (l.length + 1) = k + 1 + l.length by omega]; exact h5⟩
    show (match sp d with
      | none => none
      | some ds => match body (setsE e is ds) t with
        | some (.nx e2 t2) => loopS is sp body l e2 t2
        | some (.rt d t2) => some (.rt d t2)
        | none => none) = _
    simp only [h1, h2, h4]
theorem at_lt {α : Type} {xs : List α} {i : Int} (h0 : 0 ≤ i) (h1 : i < xs.length) : ∃ x, atI xs i = some x ∧ x ∈ xs := by
  refine ⟨xs[i.toNat]'(by omega), ?_, List.getElem_mem _⟩
  unfold atI ixN
  rw [if_pos h0, if_pos h1]
  exact List.getElem?_eq_getElem (by omega)
theorem at_nat {α : Type} {xs : List α} {i : Nat} (h : i < xs.length) : atI xs (i : Int) = some xs[i] := by
  unfold atI ixN
  rw [if_pos (by omega), if_pos (by omega)]
  exact List.getElem?_eq_getElem (by simpa using h)
theorem rng_len {a : Int} {n : Nat} : (rng a n).length = n := by unfold rng; simp
theorem rng_at {a : Int} {n i : Nat} {d : D} (h : (rng a n)[i]? = some d) : i < n ∧ d = .int (a + i) := by
  unfold rng at h
  rw [List.getElem?_map] at h
  by_cases hi : i < n
  · rw [List.getElem?_range hi] at h
    cases h
    exact ⟨hi, rfl⟩
  · rw [List.getElem?_eq_none (by simpa using hi)] at h
    cases h
theorem comp_map {α : Type} {is : List Nat} {sp : SG} {test : ST} {elt : SE} (dat : α → D) (C : α → Bool) (E : α → D) (e : Env) (t : T) (l : List α)
    (h : ∀ a ∈ l, ∃ ds, sp (dat a) = some ds ∧ test (setsE e is ds) t = some (C a, t) ∧ (C a = true → elt (setsE e is ds) t = some (E a, t))) :
    compL is sp test elt (l.map dat) e t = some ((l.filter C).map E, t) := by
  induction l with
  | nil => rfl
  | cons a l ih =>
    obtain ⟨ds, h1, h2, h3⟩ := h a (by simp)
    have ih := ih fun b hb => h b (by simp [hb])
    rw [List.map_cons]
    unfold compL
    simp only [h1, h2]
    cases hc : C a with
    | false => simp only [ih, List.filter_cons, hc]; rfl
    | true => simp only [h3 hc, ih, List.filter_cons, hc]; rfl

theorem comp2_map {α β : Type} {is is1 vs1 : List Nat} {sp sp1 : SG} {test test1 : ST} {src1 : SA} {elt : SE} (dat : α → D) (C : α → Bool) (L : α → List β) (dat1 : β → D) (C1 : α → β → Bool) (E : α → β → D) (e : Env) (t : T) (l : List α)
    (h : ∀ a ∈ l, ∃ ds, sp (dat a) = some ds ∧ test (setsE e is ds) t = some (C a, t) ∧ (C a = true → src1 (setsE e is ds) t = some ((L a).map dat1, t) ∧ ∀ b ∈ L a, ∃ ds1, sp1 (dat1 b) = some ds1 ∧
      test1 (setsE (hide vs1 (setsE e is ds)) is1 ds1) t = some (C1 a b, t) ∧ (C1 a b = true → elt (setsE (hide vs1 (setsE e is ds)) is1 ds1) t = some (E a b, t)))) :
    compL2 is sp test src1 vs1 is1 sp1 test1 elt (l.map dat) e t = some ((l.filter C).flatMap fun a => ((L a).filter (C1 a)).map (E a), t) := by
  induction l with
  | nil => rfl
  | cons a l ih =>
    obtain ⟨ds, h1, h2, h3⟩ := h a (by simp)
    have ih := ih fun b hb => h b (by simp [hb])
    rw [List.map_cons]
    unfold compL2
    simp only [h1, h2]
    cases hc : C a with
    | false => simp only [ih, List.filter_cons, hc]; rfl
    | true =>
      obtain ⟨h4, h5⟩ := h3 hc
      simp only [h4, comp_map dat1 (C1 a) (E a) (hide vs1 (setsE e is ds)) t (L a) h5, ih, List.filter_cons, hc]
      rfl

/-! ### what a walk leaves: it goes on, or it gives True back -/
@[irreducible] def WS (r : Option Out) (Q : Env → T → Prop) : Prop := match r with
  | some (.nx e t) => Q e t
  | _ => False
@[irreducible] def WR (r : Option Out) : Prop := match r with
  | some (.rt (.bool true) _) => True
  | _ => False
@[simp] theorem ws_nx {e : Env} {t : T} {Q : Env → T → Prop} : WS (some (.nx e t)) Q = Q e t := by unfold WS; rfl
@[simp] theorem wr_rt {t : T} : WR (some (.rt (.bool true) t)) = True := by unfold WR; rfl
theorem wr_ok {r : Option Out} (h : WR r) : ∃ t, r = some (.rt (.bool true) t) := by
  unfold WR at h
  split at h
  · exact ⟨_, rfl⟩
  · exact h.elim
theorem ws_ok {r : Option Out} {Q : Env → T → Prop} (h : WS r Q) : ∃ e t, r = some (.nx e t) ∧ Q e t := by
  unfold WS at h
  split at h
  · exact ⟨_, _, rfl, h⟩
  · exact h.elim
theorem ws_imp {r : Option Out} {Q Q' : Env → T → Prop} (h : WS r Q) (w : ∀ e t, Q e t → Q' e t) : WS r Q' := by
  obtain ⟨e, t, rfl, q⟩ := ws_ok h
  rw [ws_nx]
  exact w e t q
theorem ws_seq {s s2 : SS} {e : Env} {t : T} {Q : Env → T → Prop} (h : WS (s e t) fun e1 t1 => WS (s2 e1 t1) Q) : WS (sSeq s s2 e t) Q := by
  obtain ⟨e1, t1, h1, h2⟩ := ws_ok h
  rw [a_sSeq, h1]
  exact h2
theorem wr_seq {s s2 : SS} {e : Env} {t : T} (h : WS (s e t) fun e1 t1 => WR (s2 e1 t1)) : WR (sSeq s s2 e t) := by
  obtain ⟨e1, t1, h1, h2⟩ := ws_ok h
  rw [a_sSeq, h1]
  exact h2
theorem seq_eq {s s2 : SS} {e : Env} {t : T} {o : Option Out} (h : WS (s e t) fun e1 t1 => s2 e1 t1 = o) : sSeq s s2 e t = o := by
  obtain ⟨e1, t1, h1, h2⟩ := ws_ok h
  rw [a_sSeq, h1]
  exact h2
theorem find_any {α : Type} (p : α → Bool) : ∀ l : List α, (l.find? p).isSome = l.any p
  | [] => rfl
  | a :: l => by rw [List.find?_cons, List.any_cons]; cases p a <;> simp [find_any p l]
theorem ws_for {src : SA} {is : List Nat} {sp : SG} {body : SS} {e : Env} {t t1 : T} {ds : List D} {Q : Env → T → Prop} (I : Env → T → Prop) (hs : src e t = some (ds, t1)) (h0 : I e t1)
    (h : ∀ d ∈ ds, ∀ e t, I e t → ∃ xs, sp d = some xs ∧ WS (body (setsE e is xs) t) I) (hq : ∀ e t, I e t → Q e t) : WS (sFor src is sp body e t) Q := by
  rw [a_sFor, hs]
  obtain ⟨e2, t2, h1, h2⟩ := loop_inv (is := is) (sp := sp) (body := body) (I := I) ds e t1 (fun d hd e t hi => by
    obtain ⟨xs, h1, h2⟩ := h d hd e t hi
    obtain ⟨e2, t2, h3, h4⟩ := ws_ok h2
    exact ⟨_, _, _, h1, h3, h4⟩) h0
  show WS (loopS is sp body ds e t1) Q
  rw [h1, ws_nx]
  exact hq _ _ h2
theorem ws_forN {src : SA} {is : List Nat} {sp : SG} {body : SS} {e : Env} {t t1 : T} {ds : List D} {Q : Env → T → Prop} (I : Nat → Env → T → Prop) (hs : src e t = some (ds, t1)) (h0 : I 0 e t1)
    (h : ∀ i d, ds[i]? = some d → ∀ e t, I i e t → ∃ xs, sp d = some xs ∧ WS (body (setsE e is xs) t) (I (i + 1))) (hq : ∀ e t, I ds.length e t → Q e t) : WS (sFor src is sp body e t) Q := by
  rw [a_sFor, hs]
  obtain ⟨e2, t2, h1, h2⟩ := loop_invN (is := is) (sp := sp) (body := body) (I := I) ds 0 e t1 (fun i d hd e t hi => by
    rw [Nat.zero_add] at hi ⊢
    obtain ⟨xs, h1, h2⟩ := h i d hd e t hi
    obtain ⟨e2, t2, h3, h4⟩ := ws_ok h2
    exact ⟨_, _, _, h1, h3, h4⟩) h0
  rw [Nat.zero_add] at h2
  show WS (loopS is sp body ds e t1) Q
  rw [h1, ws_nx]
  exact hq _ _ h2

theorem ws_while {c : ST} {body : SS} {e : Env} {t : T} {Q : Env → T → Prop} (I : Nat → Env → T → Prop)
    (h : ∀ m e t, I m e t → (c e t = some (false, t) ∧ Q e t) ∨ ∃ m', m = m' + 1 ∧ c e t = some (true, t) ∧ WS (body e t) (I m')) (m : Nat) (hm : m < 100000) (h0 : I m e t) : WS (sWhile c body e t) Q := by
  have key : ∀ (n m : Nat) (e : Env) (t : T), m < n → I m e t → WS (loopW c body n e t) Q := by
    intro n
    induction n with
    | zero => intro m e t hm; omega
    | succ n ih =>
      intro m e t hm hi
      rcases h m e t hi with ⟨h1, h2⟩ | ⟨m', rfl, h1, h2⟩
      · unfold loopW
        rw [h1]
        show WS (some (.nx e t)) Q
        rw [ws_nx]
        exact h2
      · obtain ⟨e2, t2, h3, h4⟩ := ws_ok h2
        unfold loopW
        rw [h1]
        simp only
        rw [h3]
        exact ih m' e2 t2 (by omega) h4
  exact key FUEL m e t hm h0

/-! ### the names of the handlings -/
inductive Hn
  | count | cut | inn | left | out | over | right | under
deriving DecidableEq
def Hn.d : Hn → D
  | .count => .str "count"
  | .cut => .str "cut"
  | .inn => .str "in"
  | .left => .str "left"
  | .out => .str "out"
  | .over => .str "over"
  | .right => .str "right"
  | .under => .str "under"
def rowD (r : List Hn) : D := .tuple (r.map Hn.d)
@[simp] theorem okD_str {x : Str} : okD (.str x) = true := rfl
@[simp] theorem okD_int {i : Int} : okD (.int i) = true := rfl
@[simp] theorem okD_bool {b : Bool} : okD (.bool b) = true := rfl
@[simp] theorem okD_none : okD .none = true := rfl
@[simp] theorem okD_hn (h : Hn) : okD h.d = true := by cases h <;> rfl
@[simp] theorem eqv_int {i j : Int} : PyData.eqv (.int i) (.int j) = (i == j) := by unfold PyData.eqv; rfl
@[simp] theorem eqv_bool {a b : Bool} : PyData.eqv (.bool a) (.bool b) = (a == b) := by unfold PyData.eqv; rfl
@[simp] theorem eqv_str {a b : Str} : PyData.eqv (.str a) (.str b) = (a == b) := by unfold PyData.eqv; rfl
@[simp] theorem a_eqI {i j : Int} : dEq false (.int i) (.int j) = some (.bool (decide (i = j))) := by
  unfold dEq; rw [okD_int, okD_int, eqv_int]; rfl
@[simp] theorem a_neI {i j : Int} : dEq true (.int i) (.int j) = some (.bool (!(decide (i = j)))) := by
  unfold dEq; rw [okD_int, okD_int, eqv_int]; rfl
@[simp] theorem a_eqB {i j : Bool} : dEq false (.bool i) (.bool j) = some (.bool (decide (i = j))) := by
  unfold dEq; rw [okD_bool, okD_bool, eqv_bool]; cases i <;> cases j <;> rfl
@[simp] theorem a_neB {i j : Bool} : dEq true (.bool i) (.bool j) = some (.bool (!(decide (i = j)))) := by
  unfold dEq; rw [okD_bool, okD_bool, eqv_bool]; cases i <;> cases j <;> rfl
@[simp] theorem a_eqS {i j : Str} : dEq false (.str i) (.str j) = some (.bool (decide (i = j))) := by
  unfold dEq; rw [okD_str, okD_str, eqv_str]; rfl
@[simp] theorem a_neS {i j : Str} : dEq true (.str i) (.str j) = some (.bool (!(decide (i = j)))) := by
  unfold dEq; rw [okD_str, okD_str, eqv_str]; rfl
@[simp] theorem pl_nil : PyData.plainAll [] = true := by unfold PyData.plainAll; rfl
@[simp] theorem pl_cons {d : D} {ds : List D} : PyData.plainAll (d :: ds) = (d.plain && PyData.plainAll ds) := by rw [PyData.plainAll]
@[simp] theorem pl_str {x : Str} : PyData.plain (.str x) = true := by unfold PyData.plain; rfl
@[simp] theorem pl_int {x : Int} : PyData.plain (.int x) = true := by unfold PyData.plain; rfl
@[simp] theorem pl_hn {h : Hn} : PyData.plain h.d = true := by cases h <;> exact pl_str
@[simp] theorem a_inL {x : D} {xs : List D} {n : Bool} : dIn n x (.list xs) = if okD x = true ∧ PyData.plainAll xs = true then some (.bool (if n then !inD x xs else inD x xs)) else none := rfl
@[simp] theorem a_inT {x : D} {xs : List D} {n : Bool} : dIn n x (.tuple xs) = if okD x = true ∧ PyData.plainAll xs = true then some (.bool (if n then !inD x xs else inD x xs)) else none := rfl
@[simp] theorem in_nil {x : D} : inD x [] = false := rfl
@[simp] theorem in_cons {x y : D} {xs : List D} : inD x (y :: xs) = (PyData.eqv y x || inD x xs) := rfl
theorem str_inj {a b : String} : Str.ofString a = Str.ofString b ↔ a = b := by
  rw [Str.ofString_eq_toList, Str.ofString_eq_toList]
  constructor
  · intro h
    injection h with h
    have h := congrArg Array.toList h
    have h : a.toList.map Char.toNat = b.toList.map Char.toNat := h
    have h := (List.map_inj_right (f := Char.toNat) fun x y e => by
      apply Char.ext
      apply UInt32.toNat_inj.mp
      exact e).mp h
    exact String.toList_inj.mp h
  · intro h
    rw [h]
@[simp] theorem str_beq {a b : String} : (Str.ofString a == Str.ofString b) = (a == b) := by
  rw [Bool.eq_iff_iff, beq_iff_eq, beq_iff_eq]
  exact str_inj
@[simp] theorem str_eq {a b : String} : (Str.ofString a = Str.ofString b) = (a = b) := propext str_inj
def isAny (h : Hn) (l : List Hn) : Bool := l.contains h
@[simp] theorem a_cSrt {f : SE} {e : Env} {t : T} : cSrt f e t = (match f e t with
  | some (.list ds, t') => (match intsD ds with
    | some ns => if ns.length ≤ 60 then some (.list ((srt ns).map .int), t') else none
    | none => none)
  | _ => none) := rfl
@[simp] theorem intsD_nil : intsD [] = some [] := rfl
@[simp] theorem intsD_cons {i : Int} {r : List D} : intsD (.int i :: r) = (intsD r).map (i :: ·) := rfl
end PP

namespace PP
open PySem PySem.Spec PyProof.Rows L2
def sem_fetched : SS :=
  (sSeq (sPar [3, 4] (aCons (cBin dDiv (cVar 1) (cC (.int 2))) (aCons (cBin dSub (cVar 1) (cBin dDiv (cVar 1) (cC (.int 2)))) aNil)))
  (sSeq (sSet 5 (cBin dDiv (cVar 2) (cC (.int 2))))
  (sSeq (sIf (cTest (cBin (dIn false) (cVar 0) (cTup (aCons (cC (.str "over")) (aCons (cC (.str "count")) aNil))))) (sRet (cBin dSub (cBin dSub (cVar 1) (cC (.int 1))) (cVar 2))) sSkip)
  (sSeq (sIf (cTest (cBin (dEq false) (cVar 0) (cC (.str "under")))) (sRet (cBin dMod (cBin dAdd (cVar 2) (cC (.int 1))) (cVar 1))) sSkip)
  (sSeq (sIf (cTest (cBin (dEq false) (cVar 0) (cC (.str "cut")))) (sRet (cBin dMod (cBin dAdd (cVar 2) (cVar 3)) (cVar 1))) sSkip)
  (sSeq (sIf (cTest (cBin (dEq false) (cVar 0) (cC (.str "left")))) (sRet (cIf (cTest (cBin (dCmp fun i j => decide (i < j)) (cVar 2) (cVar 4))) (cBin dMul (cC (.int 2)) (cBin dSub (cBin dSub (cVar 4) (cC (.int 1))) (cVar 2))) (cBin dAdd (cBin dMul (cC (.int 2)) (cBin dSub (cBin dSub (cVar 1) (cC (.int 1))) (cVar 2))) (cC (.int 1))))) sSkip)
  (sSeq (sIf (cTest (cBin (dEq false) (cVar 0) (cC (.str "right")))) (sRet (cIf (cTest (cBin (dCmp fun i j => decide (i < j)) (cVar 2) (cVar 3))) (cBin dAdd (cBin dMul (cC (.int 2)) (cBin dSub (cBin dSub (cVar 3) (cC (.int 1))) (cVar 2))) (cC (.int 1))) (cBin dMul (cC (.int 2)) (cBin dSub (cBin dSub (cVar 1) (cC (.int 1))) (cVar 2))))) sSkip)
  (sSeq (sIf (cTest (cBin (dEq false) (cVar 0) (cC (.str "out")))) (sRet (cIf (cTest (cBin (dEq false) (cBin dMod (cVar 2) (cC (.int 2))) (cC (.int 0)))) (cVar 5) (cBin dAdd (cVar 4) (cVar 5)))) sSkip)
  (sRet (cIf (cTest (cBin (dEq false) (cBin dMod (cVar 2) (cC (.int 2))) (cC (.int 0)))) (cBin dAdd (cVar 3) (cVar 5)) (cVar 5)))))))))))
def f_fetched : SF := fnSem 6 sem_fetched
def sem_handled : SS :=
  (sSeq (sBind [2, 3] (spT (spsCons spN (spsCons spN spsNil))) (cVar 1))
  (sSeq (sSet 4 (cBI dLen (aCons (cVar 2) aNil)))
  (sSeq (sSet 5 (cBI dTup (aCons (cComp (iR1 (cVar 4)) [6] [6] spN cYes (cBin dIx (cVar 2) (cCall f_fetched (aCons (cVar 0) (aCons (cVar 4) (aCons (cVar 6) aNil)))))) aNil)))
  (sRet (cTup (aCons (cVar 5) (aCons (cBin (dEq true) (cVar 3) (cBin (dEq false) (cVar 0) (cC (.str "over")))) aNil)))))))
def f_handled : SF := fnSem 7 sem_handled
def sem_ways_from : SS :=
  (sSeq (sSet 2 (cTup (aCons (cTupRg (cRg1 (cVar 1))) (aCons (cC (.bool false)) aNil))))
  (sSeq (sParF 3 4 (cNDisp (cVar 2) (cC .none)) (cLst (aCons (cVar 2) aNil)))
  (sSeq (sWhile (cTest (cBin (dEq true) (cVar 4) (cLst aNil)))
   (sSeq (sSet 5 (useV [3] (cLst aNil)))
  (sSeq (sFor (fun e t => (iLst (cVar 4)) (hide [5, 3] e) t) [6] spN
   (sFor (fun e t => (iTupl (cVar 0)) (hide [5, 3] e) t) [7] spN
   (sSeq (sSet 8 (useV [5, 3] (cCall f_handled (aCons (cVar 7) (aCons (cVar 6) aNil)))))
  (sIf (cTest (cNInO true (useV [5, 3] (cVar 8)) 3)) (sSeq (sNPut 3 (useV [5, 3] (cTup (aCons (cVar 6) (aCons (cVar 7) aNil)))) (useV [5, 3] (cVar 8)))
  (sApp 5 (useV [5, 3] (cVar 8)))) sSkip))))
  (sSet 4 (useV [3] (cVar 5))))))
  (sRet (cVar 3)))))
def f_ways_from : SF := fnSem 9 sem_ways_from
def sem_way_to : SS :=
  (sSeq (sSet 2 (cCall f_ways_from (aCons (cVar 0) (aCons (cBI dLen (aCons (cBin dIx (cVar 1) (cC (.int 0))) aNil)) aNil))))
  (sSeq (sIf (cTest (cBin (dNIn true) (cVar 1) (cVar 2))) (sRet (cC .none)) sSkip)
  (sSeq (sPar [3, 4] (aCons (cTup aNil) (aCons (cVar 1) aNil)))
  (sSeq (sWhile (cTest (cIsN true (cBin dNGet (cVar 2) (cVar 4))))
   (sSeq (sBind [4, 5] (spT (spsCons spN (spsCons spN spsNil))) (cBin dNGet (cVar 2) (cVar 4)))
  (sSet 3 (cTup (aCons (cVar 5) (aStar (cVar 3) aNil))))))
  (sRet (cVar 3))))))
def f_way_to : SF := fnSem 6 sem_way_to
def sem_fewest_handlings : SS :=
  (sSeq (sSet 2 (cCall f_way_to (aCons (cVar 0) (aCons (cVar 1) aNil))))
  (sRet (cIf (cTest (cIsN false (cVar 2))) (cC .none) (cBI dLen (aCons (cVar 2) aNil)))))
def f_fewest_handlings : SF := fnSem 3 sem_fewest_handlings
def sem_law_draw : SS :=
  (sSeq (sSet 2 (cC (.int 2305843009213693951)))
  (sSeq (sIf (cTest (cBin (dCmp fun i j => decide (i < j)) (cTj 0) (cVar 1))) (sSeq (sSet 3 (cC (.int 0)))
  (sSeq (sIf (cTest (cBin (dCmp fun i j => decide (j < i)) (cBI dLen (aCons (cTn 0) aNil)) (cC (.int 0)))) (sSet 3 (cBin dIx (cTn 0) (cBin dMod (cBI dInt (aCons (cTi 0) aNil)) (cBI dLen (aCons (cTn 0) aNil))))) sSkip)
  (sSeq (sIf (cOrT (cTest (cBin (dCmp fun i j => decide (j ≤ i)) (cTi 0) (cBI dLen (aCons (cTn 0) aNil)))) (cTest (cBin (dCmp fun i j => decide (i < j)) (cVar 3) (cBin dPow (cC (.int 10)) (cC (.int 18)))))) (sSeq (sSet 3 (cBin dMod (cBI dInt (aCons (cBin dAdd (cVar 3) (cBin dMul (cC (.int 1000003)) (cTi 0))) aNil)) (cVar 2)))
  (sSeq (sSet 3 (cBin dMod (cBI dInt (aCons (cBin dAdd (cBin dAdd (cBin dMul (cVar 3) (cVar 3)) (cBin dMul (cC (.int 1181783497276652981)) (cVar 3))) (cC (.int 2049848353892358983))) aNil)) (cVar 2)))
  (sSet 3 (cBin dMod (cBI dInt (aCons (cBin dAdd (cBin dMul (cVar 3) (cVar 3)) (cC (.int 1442695040888963407))) aNil)) (cVar 2))))) sSkip)
  (sSeq (sTi 0 (cBin dAdd (cTi 0) (cC (.int 1))))
  (sTj 0 (cVar 3)))))) sSkip)
  (sSeq (sSet 4 (cBin dMod (cBI dInt (aCons (cTj 0) aNil)) (cVar 1)))
  (sSeq (sTj 0 (cBin dDiv (cTj 0) (cVar 1)))
  (sRet (cVar 4))))))
def f_law_draw : SF := fnSem 5 sem_law_draw
def sem_law_like (self : SF) : SS :=
  (sSeq (sIf (cTest (cIsi [.list, .tuple] (cVar 0))) (sSeq (sIf (cOrT (cTest (cBin (dEq true) (cIsi [.list] (cVar 0)) (cIsi [.list] (cVar 1)))) (cTest (cBin (dEq true) (cIsi [.tuple] (cVar 0)) (cIsi [.tuple] (cVar 1))))) (sRet (cC (.bool false))) sSkip)
  (sSeq (sIf (cTest (cBin (dEq true) (cBI dLen (aCons (cVar 0) aNil)) (cBI dLen (aCons (cVar 1) aNil)))) (sRet (cC (.bool false))) sSkip)
  (sRet (cBin (dEq false) (cComp (iR1 (cBI dLen (aCons (cVar 0) aNil))) [2] [2] spN (cNot (cTest (cCall self (aCons (cBin dIx (cVar 0) (cVar 2)) (aCons (cBin dIx (cVar 1) (cVar 2)) aNil))))) (cVar 2)) (cLst aNil))))) sSkip)
  (sSeq (sIf (cTest (cIsi [.list, .tuple] (cVar 1))) (sRet (cC (.bool false))) sSkip)
  (sRet (cAnd (cBin (dEq false) (cIsi [.bool] (cVar 0)) (cIsi [.bool] (cVar 1))) (cBin (dEq false) (cVar 0) (cVar 1))))))
def f_law_like : Nat → SF
  | 0 => fun _ _ => none
  | k + 1 => fnSem 3 (sem_law_like (f_law_like k))
def sem_law_names : SS :=
  (sRet (cLst (aCons (cC (.str "count")) (aCons (cC (.str "cut")) (aCons (cC (.str "in")) (aCons (cC (.str "left")) (aCons (cC (.str "out")) (aCons (cC (.str "over")) (aCons (cC (.str "right")) (aCons (cC (.str "under")) aNil))))))))))
def f_law_names : SF := fnSem 0 sem_law_names
def sem_law_woven : SS :=
  (sSeq (sSet 2 (useV [] (cLst aNil)))
  (sSeq (sFor (fun e t => (iR1 (cBI dLen (aCons (cVar 0) aNil))) (hide [2] e) t) [3] spN
   (sSeq (sApp 2 (useV [2] (cBin dIx (cVar 0) (cVar 3))))
  (sExt 2 (useV [2] (cSl (cVar 1) (oAt (cVar 3)) (oAt (cBin dAdd (cVar 3) (cC (.int 1)))))))))
  (sRet (cVar 2))))
def f_law_woven : SF := fnSem 4 sem_law_woven
def sem_law_handled : SS :=
  (sSeq (sSet 2 (cBI dLen (aCons (cVar 1) aNil)))
  (sSeq (sIf (cTest (cBin (dIn false) (cVar 0) (cTup (aCons (cC (.str "over")) (aCons (cC (.str "count")) aNil))))) (sRet (cUn dRev (cVar 1))) sSkip)
  (sSeq (sIf (cTest (cBin (dEq false) (cVar 0) (cC (.str "under")))) (sRet (cBin dAdd (cSl (cVar 1) (oAt (cC (.int 1))) oNo) (cSl (cVar 1) oNo (oAt (cC (.int 1)))))) sSkip)
  (sSeq (sIf (cTest (cBin (dEq false) (cVar 0) (cC (.str "cut")))) (sRet (cBin dAdd (cSl (cVar 1) (oAt (cBin dDiv (cVar 2) (cC (.int 2)))) oNo) (cSl (cVar 1) oNo (oAt (cBin dDiv (cVar 2) (cC (.int 2))))))) sSkip)
  (sSeq (sIf (cTest (cBin (dIn false) (cVar 0) (cTup (aCons (cC (.str "left")) (aCons (cC (.str "right")) aNil))))) (sSeq (sPar [3, 4] (aCons (cUn dRev (cSl3 (cVar 1) oNo oNo (oAt (cC (.int 2))))) (aCons (cUn dRev (cSl3 (cVar 1) (oAt (cC (.int 1))) oNo (oAt (cC (.int 2))))) aNil)))
  (sRet (cIf (cTest (cBin (dEq false) (cVar 0) (cC (.str "left")))) (cBin dAdd (cVar 3) (cVar 4)) (cBin dAdd (cVar 4) (cVar 3))))) sSkip)
  (sSeq (sIf (cTest (cBin (dEq false) (cVar 0) (cC (.str "out")))) (sRet (cCall f_law_woven (aCons (cSl (cVar 1) oNo (oAt (cBin dDiv (cBin dAdd (cVar 2) (cC (.int 1))) (cC (.int 2))))) (aCons (cSl (cVar 1) (oAt (cBin dDiv (cBin dAdd (cVar 2) (cC (.int 1))) (cC (.int 2)))) oNo) aNil)))) sSkip)
  (sRet (cCall f_law_woven (aCons (cSl (cVar 1) (oAt (cBin dDiv (cVar 2) (cC (.int 2)))) oNo) (aCons (cSl (cVar 1) oNo (oAt (cBin dDiv (cVar 2) (cC (.int 2))))) aNil))))))))))
def f_law_handled : SF := fnSem 5 sem_law_handled
def sem_law_laid : SS :=
  (sSeq (sSet 2 (cLstRg (cRg1 (cVar 1))))
  (sSeq (sFor (iTupl (cVar 0)) [3] spN
   (sSet 2 (cCall f_law_handled (aCons (cVar 3) (aCons (cVar 2) aNil)))))
  (sRet (cVar 2))))
def f_law_laid : SF := fnSem 4 sem_law_laid
def sem_law_turns : SS :=
  (sRet (cBin (dEq false) (cBin dMod (cBI dInt (aCons (cBI dLen (aCons (cComp (iTupl (cVar 0)) [1] [1] spN (cTest (cBin (dEq false) (cVar 1) (cC (.str "over")))) (cVar 1)) aNil)) aNil)) (cC (.int 2))) (cC (.int 1))))
def f_law_turns : SF := fnSem 2 sem_law_turns
def sem_law_reached : SS :=
  (sSeq (sParF 2 3 (cNDisp (cTup (aCons (cTupRg (cRg1 (cVar 1))) (aCons (cC (.bool false)) aNil))) (cC (.int 0))) (cLst (aCons (cTup (aCons (cTupRg (cRg1 (cVar 1))) (aCons (cC (.bool false)) aNil))) aNil)))
  (sSeq (sWhile (cTest (cBin (dEq true) (cVar 3) (cLst aNil)))
   (sSeq (sSet 4 (useV [2] (cLst aNil)))
  (sSeq (sFor (fun e t => (iLst (cVar 3)) (hide [4, 2] e) t) [5, 6] (spT (spsCons spN (spsCons spN spsNil)))
   (sFor (fun e t => (iTupl (cVar 0)) (hide [4, 2] e) t) [7] spN
   (sSeq (sSet 8 (useV [4, 2] (cTup (aCons (cBI dTup (aCons (cCall f_law_handled (aCons (cVar 7) (aCons (cBI dList (aCons (cVar 5) aNil)) aNil))) aNil)) (aCons (cBin (dEq true) (cVar 6) (cBin (dEq false) (cVar 7) (cC (.str "over")))) aNil)))))
  (sIf (cTest (cNInO true (useV [4, 2] (cVar 8)) 2)) (sSeq (sNPut 2 (useB (cBin dAdd (cBin dNGet (cVar 2) (cTup (aCons (cVar 5) (aCons (cVar 6) aNil)))) (cC (.int 1)))) (useV [4, 2] (cVar 8)))
  (sApp 4 (useV [4, 2] (cVar 8)))) sSkip))))
  (sSet 3 (useV [2] (cVar 4))))))
  (sRet (cVar 2))))
def f_law_reached : SF := fnSem 9 sem_law_reached
def sem_law : SS :=
  (sSeq (sFor (iR1 (cC (.int 3))) [2] spN
   (sSeq (sSet 3 (cBI dTup (aCons (cComp (iLst (cCall f_law_names aNil)) [11] [11] spN (cTest (cBin (dEq false) (cCall f_law_draw (aCons (cVar 1) (aCons (cC (.int 3)) aNil))) (cC (.int 0)))) (cVar 11)) aNil)))
  (sSeq (sSet 4 (cBin dAdd (cC (.int 1)) (cCall f_law_draw (aCons (cVar 1) (aCons (cC (.int 5)) aNil)))))
  (sSeq (sPar [5, 6] (aCons (cCall f_law_reached (aCons (cVar 3) (aCons (cVar 4) aNil))) (aCons (cTup (aCons (cTupRg (cRg1 (cVar 4))) (aCons (cC (.bool false)) aNil))) aNil)))
  (sFor (iR1 (cC (.int 4))) [7] spN
   (sSeq (sPar [8, 9] (aCons (cCall f_fewest_handlings (aCons (cVar 3) (aCons (cVar 6) aNil))) (aCons (cCall f_way_to (aCons (cVar 3) (aCons (cVar 6) aNil))) aNil)))
  (sSeq (sIf (cOrT (cNot (cTest (cCall (f_law_like 8) (aCons (cVar 8) (aCons (cBin dNGet1 (cVar 5) (cVar 6)) aNil))))) (cTest (cBin (dEq true) (cIsN false (cVar 9)) (cIsN false (cVar 8))))) (sRet (cC (.bool false))) sSkip)
  (sSeq (sIf (cTest (cIsN true (cVar 9))) (sSeq (sIf (cOrT (cNot (cTest (cIsi [.tuple] (cVar 9)))) (cTest (cBin (dEq true) (cBI dLen (aCons (cVar 9) aNil)) (cVar 8)))) (sRet (cC (.bool false))) sSkip)
  (sSeq (sIf (cTest (cBin (dEq true) (cComp (iTupl (cVar 9)) [11] [11] spN (cTest (cBin (dIn true) (cVar 11) (cVar 3))) (cVar 11)) (cLst aNil))) (sRet (cC (.bool false))) sSkip)
  (sIf (cTest (cBin (dEq true) (cTup (aCons (cBI dTup (aCons (cCall f_law_laid (aCons (cVar 9) (aCons (cVar 4) aNil))) aNil)) (aCons (cCall f_law_turns (aCons (cVar 9) aNil)) aNil))) (cVar 6))) (sRet (cC (.bool false))) sSkip))) sSkip)
  (sSeq (sParF 6 10 (cTup (aCons (cTup aNil) (aCons (cBin (dEq false) (cCall f_law_draw (aCons (cVar 1) (aCons (cC (.int 2)) aNil))) (cC (.int 0))) aNil))) (cLstRg (cRg1 (cVar 4))))
  (sSeq (sWhile (cTest (cBin (dEq true) (cVar 10) (cLst aNil)))
   (sSetM 6 (mTup (maCons (mBin dAdd (mOf (useV [10] (cBin dIx (cVar 6) (cC (.int 0))))) (mTup (maCons (mPop 10 (useB (cCall f_law_draw (aCons (cVar 1) (aCons (cBI dLen (aCons (cVar 10) aNil)) aNil))))) maNil))) (maCons (mOf (useV [10] (cBin dIx (cVar 6) (cC (.int 1))))) maNil)))))
  (sIf (cTest (cBin (dEq false) (cCall f_law_draw (aCons (cVar 1) (aCons (cC (.int 2)) aNil))) (cC (.int 0)))) (sSet 6 (useV [10] (cBin dIx (cBI dNList (aCons (cVar 5) aNil)) (cCall f_law_draw (aCons (cVar 1) (aCons (cBI dLenN (aCons (cVar 5) aNil)) aNil)))))) sSkip)))))))))))
  (sRet (cAnd (cIsN false (cCall f_fewest_handlings (aCons (cTup (aCons (cC (.str "out")) aNil)) (aCons (cTup (aCons (cTup (aCons (cC (.int 1)) (aCons (cC (.int 0)) (aCons (cC (.int 2)) aNil)))) (aCons (cC (.bool false)) aNil))) aNil)))) (cBin (dEq false) (cCall f_way_to (aCons (cTup aNil) (aCons (cTup (aCons (cTup (aCons (cC (.int 0)) aNil)) (aCons (cC (.bool false)) aNil))) aNil))) (cTup aNil)))))
end PP

namespace PP
open PySem PySem.Spec PyProof.Rows L2
def mv (h : Hn) (n p : Int) : Int := match h with
  | .over | .count => n - 1 - p
  | .under => (p - 1) % n
  | .cut => (p - n / 2) % n
  | .left => if p % 2 = 0 then n - n / 2 - 1 - p / 2 else n - 1 - p / 2
  | .right => if p % 2 = 0 then n - 1 - p / 2 else n / 2 - 1 - p / 2
  | .out => if p < n - n / 2 then 2 * p else 2 * (p - (n - n / 2)) + 1
  | .inn => if p < n / 2 then 2 * p + 1 else 2 * (p - n / 2)
def ft (h : Hn) (n p : Int) : Int := match h with
  | .over | .count => n - 1 - p
  | .under => (p + 1) % n
  | .cut => (p + n / 2) % n
  | .left => if p < n - n / 2 then 2 * (n - n / 2 - 1 - p) else 2 * (n - 1 - p) + 1
  | .right => if p < n / 2 then 2 * (n / 2 - 1 - p) + 1 else 2 * (n - 1 - p)
  | .out => if p % 2 = 0 then p / 2 else n - n / 2 + p / 2
  | .inn => if p % 2 = 0 then n / 2 + p / 2 else p / 2
theorem fetched_eq (h : Hn) (n p : Int) (t : T) (hn : 0 < n) : f_fetched [h.d, .int n, .int p] t = some (.int (ft h n p), t) := by
  cases h
  case left => by_cases h1 : p < n - n / 2 <;> simp [f_fetched, sem_fetched, fnSem, Hn.d, ft, hn, LIM, h1]
  case right => by_cases h1 : p < n / 2 <;> simp [f_fetched, sem_fetched, fnSem, Hn.d, ft, hn, LIM, h1]
  case out => by_cases h1 : p % 2 = 0 <;> simp [f_fetched, sem_fetched, fnSem, Hn.d, ft, hn, LIM, h1]
  case inn => by_cases h1 : p % 2 = 0 <;> simp [f_fetched, sem_fetched, fnSem, Hn.d, ft, hn, LIM, h1]
  all_goals simp [f_fetched, sem_fetched, fnSem, Hn.d, ft, hn, LIM]
theorem two_cases {p : Int} : p % 2 = 0 ∨ p % 2 = 1 := by omega
theorem under_mod {n p : Int} (h0 : 0 ≤ p) (h1 : p < n) : (p - 1) % n = if p = 0 then n - 1 else p - 1 := by
  split
  · rename_i h
    subst h
    rw [show (0 : Int) - 1 = n - 1 + (-1) * n by omega, Int.add_mul_emod_self_right]
    exact Int.emod_eq_of_lt (by omega) (by omega)
  · exact Int.emod_eq_of_lt (by omega) (by omega)
theorem wrap_mod {n q : Int} (h0 : 0 ≤ q) (h1 : q < 2 * n) : q % n = if q < n then q else q - n := by
  split
  · exact Int.emod_eq_of_lt h0 (by omega)
  · rw [show q = (q - n) + 1 * n by omega, Int.add_mul_emod_self_right]
    rw [Int.emod_eq_of_lt (by omega) (by omega)]
    omega
theorem cut_mod {n p : Int} (h0 : 0 ≤ p) (h1 : p < n) : (p - n / 2) % n = if p < n / 2 then p - n / 2 + n else p - n / 2 := by
  split
  · have e : p - n / 2 = (p - n / 2 + n) + (-1) * n := by omega
    have e2 : (p - n / 2 + n) % n = p - n / 2 + n := Int.emod_eq_of_lt (by omega) (by omega)
    rw [e, Int.add_mul_emod_self_right, e2]
    omega
  · exact Int.emod_eq_of_lt (by omega) (by omega)
/-- places and sheets: inverse of each other -/
theorem mv_range (h : Hn) {n p : Int} (h0 : 0 ≤ p) (h1 : p < n) : 0 ≤ mv h n p ∧ mv h n p < n := by
  cases h <;> simp only [mv]
  case under => rw [under_mod h0 h1]; split <;> omega
  case cut => rw [cut_mod h0 h1]; split <;> omega
  all_goals (try split) <;> omega
theorem ft_range (h : Hn) {n p : Int} (h0 : 0 ≤ p) (h1 : p < n) : 0 ≤ ft h n p ∧ ft h n p < n := by
  cases h <;> simp only [ft]
  case under => rw [wrap_mod (by omega) (by omega)]; split <;> omega
  case cut => rw [wrap_mod (by omega) (by omega)]; split <;> omega
  all_goals (try split) <;> omega
theorem ft_mv (h : Hn) {n p : Int} (h0 : 0 ≤ p) (h1 : p < n) : ft h n (mv h n p) = p := by
  have hr := mv_range h h0 h1
  cases h <;> simp only [mv, ft] at hr ⊢
  case under => rw [under_mod h0 h1] at hr ⊢; rw [wrap_mod (by omega) (by omega)]; split <;> split <;> omega
  case cut => rw [cut_mod h0 h1] at hr ⊢; rw [wrap_mod (by omega) (by omega)]; split <;> split <;> omega
  all_goals (try split) <;> (try split) <;> omega
theorem mv_ft (h : Hn) {n p : Int} (h0 : 0 ≤ p) (h1 : p < n) : mv h n (ft h n p) = p := by
  have hr := ft_range h h0 h1
  cases h <;> simp only [mv, ft] at hr ⊢
  case under => rw [under_mod hr.1 hr.2]; rw [wrap_mod (by omega) (by omega)] at hr ⊢; split <;> split <;> omega
  case cut => rw [cut_mod hr.1 hr.2]; rw [wrap_mod (by omega) (by omega)] at hr ⊢; split <;> split <;> omega
  all_goals (try split) <;> (try split) <;> omega
def plc (r : List Hn) (n p : Int) : Int := r.foldl (fun p h => mv h n p) p
def sht (r : List Hn) (n p : Int) : Int := r.reverse.foldl (fun p h => ft h n p) p
end PP

namespace PP
open PySem PySem.Spec PyProof.Rows L2
/-! ### draws -/
@[simp] theorem okMul_m {x y : Int} : okMul (x % 2305843009213693951) y = true := by
  unfold okMul
  have := Int.emod_nonneg x (b := 2305843009213693951) (by decide)
  have := Int.emod_lt_of_pos x (b := 2305843009213693951) (by decide)
  rw [Bool.or_eq_true]
  exact .inl (leN_of (by omega))
@[simp] theorem okMul_a {y : Int} : okMul 1000003 y = true := rfl
@[simp] theorem okMul_b {y : Int} : okMul 1181783497276652981 y = true := rfl
theorem at_mod {α : Type} {xs : List α} (h : 0 < xs.length) (i : Int) : ∃ x, atI xs (i % xs.length) = some x ∧ x ∈ xs := by
  have h0 := Int.emod_nonneg i (b := (xs.length : Int)) (by omega)
  have h1 := Int.emod_lt_of_pos i (b := (xs.length : Int)) (by omega)
  refine ⟨xs[(i % xs.length).toNat]'(by omega), ?_, List.getElem_mem _⟩
  unfold atI ixN
  rw [if_pos h0, if_pos h1]
  exact List.getElem?_eq_getElem (by omega)
theorem draw_ex (n : Int) (t : T) (h0 : 0 < n) (h1 : n < 2 ^ 100) : ∃ v t', f_law_draw [tapeD, .int n] t = some (.int v, t') ∧ 0 ≤ v ∧ v < n := by
  have hm : ∀ j : Int, 0 ≤ j % n ∧ j % n < n := fun j => ⟨Int.emod_nonneg _ (by omega), Int.emod_lt_of_pos _ h0⟩
  have h1' := okDv_of h0 h1
  by_cases hj : t.j < n
  · by_cases hl : 0 < t.ns.length
    · obtain ⟨c, hc, hx⟩ := at_mod (xs := t.ns.map PyData.int) (by simpa using hl) t.i
      obtain ⟨c, _, rfl⟩ := List.mem_map.mp hx
      rw [List.length_map] at hc
      have hl' : (0 : Int) < t.ns.length := by omega
      have hl2 : ¬ t.ns = [] := by intro z; rw [z] at hl; exact absurd hl (by decide)
      by_cases c1 : (t.ns.length : Int) ≤ t.i
      · simp [f_law_draw, sem_law_draw, fnSem, hj, hl, hl', hl2, hc, c1, h0, h1', hm]
      · by_cases c2 : c < 1000000000000000000
        · simp [f_law_draw, sem_law_draw, fnSem, hj, hl, hl', hl2, hc, c1, c2, h0, h1', hm]
        · simp [f_law_draw, sem_law_draw, fnSem, hj, hl, hl', hl2, hc, c1, c2, h0, h1', hm]
    · have hl2 : t.ns = [] := List.length_eq_zero_iff.mp (by omega)
      by_cases c1 : (0 : Int) ≤ t.i
      · simp [f_law_draw, sem_law_draw, fnSem, hj, hl2, c1, h0, h1', hm]
      · simp [f_law_draw, sem_law_draw, fnSem, hj, hl2, c1, h0, h1', hm]
  · simp [f_law_draw, sem_law_draw, fnSem, hj, h0, h1', hm]
def drv (n : Int) (t : T) : Int := match f_law_draw [tapeD, .int n] t with
  | some (.int v, _) => v
  | _ => 0
def drt (n : Int) (t : T) : T := match f_law_draw [tapeD, .int n] t with
  | some (.int _, t') => t'
  | _ => t
theorem draw_eq {n : Int} {t : T} (h0 : 0 < n) (h1 : n < 2 ^ 100) : f_law_draw [tapeD, .int n] t = some (.int (drv n t), drt n t) := by
  obtain ⟨v, t', e, _⟩ := draw_ex n t h0 h1
  unfold drv drt
  rw [e]
theorem drv_range {n : Int} {t : T} (h0 : 0 < n) (h1 : n < 2 ^ 100) : 0 ≤ drv n t ∧ drv n t < n := by
  obtain ⟨v, t', e, h⟩ := draw_ex n t h0 h1
  unfold drv
  rw [e]
  exact h
end PP

namespace PP
open PySem PySem.Spec PyProof.Rows L2
/-! ### drawn rows -/
def hnAll : List Hn := [.count, .cut, .inn, .left, .out, .over, .right, .under]
def Hn.part : Hn → Bool
  | .cut | .inn | .left | .out | .right => true
  | _ => false
def parts (r : List Hn) : Nat := r.countP Hn.part
theorem names_eq (t : T) : f_law_names [] t = some (.list (hnAll.map Hn.d), t) := rfl
def okRow (r : List Hn) (m : Nat) : Prop := r.length ≤ m ∧ parts r ≤ 3
theorem row_add {r : List Hn} {h : Hn} (hl : r.length + 1 ≤ LIM) : dAdd (rowD r) (.tuple [h.d]) = some (rowD (r ++ [h])) := by
  unfold rowD
  show (if _ then _ else _) = _
  rw [if_pos (by simpa using hl), List.map_append]
  rfl
/-! ### sheets -/
theorem plc_range (r : List Hn) {n : Int} : ∀ {p : Int}, 0 ≤ p → p < n → 0 ≤ plc r n p ∧ plc r n p < n := by
  unfold plc
  induction r with
  | nil => intro p h0 h1; exact ⟨h0, h1⟩
  | cons h r ih =>
    intro p h0 h1
    have hm := mv_range h h0 h1
    exact ih hm.1 hm.2
theorem sht_range (r : List Hn) {n : Int} : ∀ {p : Int}, 0 ≤ p → p < n → 0 ≤ sht r n p ∧ sht r n p < n := by
  unfold sht
  generalize r.reverse = r
  induction r with
  | nil => intro p h0 h1; exact ⟨h0, h1⟩
  | cons h r ih =>
    intro p h0 h1
    have hm := ft_range h h0 h1
    exact ih hm.1 hm.2
theorem sht_cons (h : Hn) (r : List Hn) (n p : Int) : sht (h :: r) n p = ft h n (sht r n p) := by
  unfold sht
  rw [List.reverse_cons, List.foldl_append]
  rfl
theorem plc_cons (h : Hn) (r : List Hn) (n p : Int) : plc (h :: r) n p = plc r n (mv h n p) := rfl
theorem sht_plc (r : List Hn) {n : Int} : ∀ {p : Int}, 0 ≤ p → p < n → sht r n (plc r n p) = p := by
  induction r with
  | nil => intro p _ _; rfl
  | cons h r ih =>
    intro p h0 h1
    have hm := mv_range h h0 h1
    rw [sht_cons, plc_cons, ih hm.1 hm.2, ft_mv h h0 h1]
theorem plc_sht (r : List Hn) {n : Int} : ∀ {p : Int}, 0 ≤ p → p < n → plc r n (sht r n p) = p := by
  induction r with
  | nil => intro p _ _; rfl
  | cons h r ih =>
    intro p h0 h1
    have hm := sht_range r h0 h1
    rw [sht_cons, plc_cons, mv_ft h hm.1 hm.2, ih h0 h1]
end PP

namespace PP
open PySem PySem.Spec PyProof.Rows L2
/-! ### a thing is like itself -/
def lkOk : Nat → D → Prop
  | 0, _ => False
  | k + 1, .list xs => xs.length ≤ LIM ∧ ∀ x ∈ xs, lkOk k x
  | k + 1, .tuple xs => xs.length ≤ LIM ∧ ∀ x ∈ xs, lkOk k x
  | _ + 1, .dict _ => False
  | _ + 1, _ => True
theorem eqv_non : PyData.eqv .none .none = true := by unfold PyData.eqv; rfl
theorem eqv_nil : PyData.eqv (.list []) (.list []) = true := by unfold PyData.eqv PyData.eqvAll; rfl
@[simp] theorem a_eqN : dEq false .none .none = some (.bool true) := by
  unfold dEq; rw [okD_none, eqv_non]; rfl
@[simp] theorem a_eqE : dEq false (.list []) (.list []) = some (.bool true) := by
  unfold dEq; rw [eqv_nil]; rfl
theorem rng_map (a : Int) (n : Nat) : rng a n = (List.range n).map fun (i : Nat) => PyData.int (a + i) := rfl
theorem filt_no {α : Type} : ∀ l : List α, l.filter (fun _ => false) = []
  | [] => rfl
  | _ :: l => filt_no l
theorem like_refl : ∀ (k : Nat) (d : D) (t : T), lkOk k d → f_law_like k [d, d] t = some (.bool true, t) := by
  intro k
  induction k with
  | zero => intro d t h; exact h.elim
  | succ k ih =>
    intro d t h
    cases d with
    | none => simp [f_law_like, sem_law_like, fnSem, isTy, noDict]
    | bool b => simp [f_law_like, sem_law_like, fnSem, isTy, noDict]
    | int i => simp [f_law_like, sem_law_like, fnSem, isTy, noDict]
    | str x => simp [f_law_like, sem_law_like, fnSem, isTy, noDict]
    | dict _ => exact h.elim
    | list xs =>
      obtain ⟨hl, h⟩ := h
      have hc := comp_map (is := [2]) (sp := spN) (test := cNot (cTest (cCall (f_law_like k) (aCons (cBin dIx (cVar 0) (cVar 2)) (aCons (cBin dIx (cVar 1) (cVar 2)) aNil))))) (elt := cVar 2)
        (fun (i : Nat) => PyData.int (0 + i)) (fun _ => false) (fun (i : Nat) => PyData.int (0 + i)) [some (.list xs), some (.list xs), none] t (List.range xs.length) (fun i hi => by
          have hi : i < xs.length := List.mem_range.mp hi
          refine ⟨_, rfl, ?_, fun z => nomatch z⟩
          simp [at_nat hi, ih _ t (h _ (List.getElem_mem hi))])
      rw [← rng_map, filt_no] at hc
      have hl2 := okI_len hl
      have hl0 : (0 : Nat) ≤ LIM := Nat.zero_le _
      simp at hc
      simp [f_law_like, sem_law_like, fnSem, isTy, noDict, hl2, hc, hl0]
    | tuple xs =>
      obtain ⟨hl, h⟩ := h
      have hc := comp_map (is := [2]) (sp := spN) (test := cNot (cTest (cCall (f_law_like k) (aCons (cBin dIx (cVar 0) (cVar 2)) (aCons (cBin dIx (cVar 1) (cVar 2)) aNil))))) (elt := cVar 2)
        (fun (i : Nat) => PyData.int (0 + i)) (fun _ => false) (fun (i : Nat) => PyData.int (0 + i)) [some (.tuple xs), some (.tuple xs), none] t (List.range xs.length) (fun i hi => by
          have hi : i < xs.length := List.mem_range.mp hi
          refine ⟨_, rfl, ?_, fun z => nomatch z⟩
          simp [at_nat hi, ih _ t (h _ (List.getElem_mem hi))])
      rw [← rng_map, filt_no] at hc
      have hl2 := okI_len hl
      have hl0 : (0 : Nat) ≤ LIM := Nat.zero_le _
      simp at hc
      simp [f_law_like, sem_law_like, fnSem, isTy, noDict, hl2, hc, hl0]
@[simp] theorem like_int (i : Int) (t : T) : f_law_like 8 [.int i, .int i] t = some (.bool true, t) := like_refl _ _ _ trivial
@[simp] theorem like_bool (i : Bool) (t : T) : f_law_like 8 [.bool i, .bool i] t = some (.bool true, t) := like_refl _ _ _ trivial
theorem like_ints (xs : List Int) (t : T) (h : xs.length ≤ LIM) : f_law_like 8 [.list (xs.map .int), .list (xs.map .int)] t = some (.bool true, t) := like_refl _ _ _ ⟨by simpa using h, fun x hx => by
  obtain ⟨i, _, rfl⟩ := List.mem_map.mp hx
  trivial⟩
end PP

namespace PP
open PySem PySem.Spec PyProof.Rows L2
/-! ### equal things -/
theorem dep_list {xs : List D} : PyData.depth (.list xs) = PyData.depthAll xs + 1 := by rw [PyData.depth]; try omega
theorem dep_tup {xs : List D} : PyData.depth (.tuple xs) = PyData.depthAll xs + 1 := by rw [PyData.depth]; try omega
theorem dep_all {k : Nat} : ∀ {xs : List D}, (∀ x ∈ xs, PyData.depth x ≤ k) → PyData.depthAll xs ≤ k
  | [], _ => by rw [PyData.depthAll]; omega
  | x :: xs, h => by
    rw [PyData.depthAll]
    exact Nat.max_le.mpr ⟨h x (by simp), dep_all fun y hy => h y (by simp [hy])⟩
theorem pl_all : ∀ {xs : List D}, (∀ x ∈ xs, PyData.plain x = true) → PyData.plainAll xs = true
  | [], _ => by simp
  | x :: xs, h => by rw [pl_cons, h x (by simp), pl_all fun y hy => h y (by simp [hy])]; rfl
theorem evs_all : ∀ {xs : List D}, (∀ x ∈ xs, PyData.eqv x x = true) → PyData.eqvAll xs xs = true
  | [], _ => by unfold PyData.eqvAll; rfl
  | x :: xs, h => by
    rw [PyData.eqvAll, h x (by simp), evs_all fun y hy => h y (by simp [hy])]; rfl
theorem flat_ok : ∀ (k : Nat) (d : D), lkOk k d → d.plain = true ∧ d.depth ≤ k ∧ PyData.eqv d d = true := by
  intro k
  induction k with
  | zero => intro d h; exact h.elim
  | succ k ih =>
    intro d h
    cases d with
    | none => exact ⟨rfl, by rw [PyData.depth]; omega, eqv_non⟩
    | bool b => exact ⟨rfl, by rw [PyData.depth]; omega, by simp⟩
    | int i => exact ⟨rfl, by rw [PyData.depth]; omega, by simp⟩
    | str x => exact ⟨rfl, by rw [PyData.depth]; omega, by simp⟩
    | dict _ => exact h.elim
    | list xs => exact ⟨by rw [PyData.plain]; exact pl_all fun x hx => (ih x (h.2 x hx)).1, by rw [dep_list]; exact Nat.succ_le_succ (dep_all fun x hx => (ih x (h.2 x hx)).2.1), by rw [PyData.eqv]; exact evs_all fun x hx => (ih x (h.2 x hx)).2.2⟩
    | tuple xs => exact ⟨by rw [PyData.plain]; exact pl_all fun x hx => (ih x (h.2 x hx)).1, by rw [dep_tup]; exact Nat.succ_le_succ (dep_all fun x hx => (ih x (h.2 x hx)).2.1), by rw [PyData.eqv]; exact evs_all fun x hx => (ih x (h.2 x hx)).2.2⟩
theorem lk_okD {k : Nat} {d : D} (h : lkOk k d) (hk : k ≤ 60) : okD d = true := by
  obtain ⟨h1, h2, _⟩ := flat_ok k d h
  unfold okD
  rw [h1, decide_eq_true (by omega)]
  rfl
theorem eq_same {k : Nat} {d : D} (h : lkOk k d) (hk : k ≤ 60) : dEq false d d = some (.bool true) := by
  unfold dEq
  rw [lk_okD h hk, (flat_ok k d h).2.2]
  rfl
theorem ne_same {k : Nat} {d : D} (h : lkOk k d) (hk : k ≤ 60) : dEq true d d = some (.bool false) := by
  unfold dEq
  rw [lk_okD h hk, (flat_ok k d h).2.2]
  rfl
theorem lk_ints {xs : List Int} (h : xs.length ≤ LIM) : lkOk 2 (.list (xs.map .int)) := ⟨by simpa using h, fun x hx => by
  obtain ⟨i, _, rfl⟩ := List.mem_map.mp hx
  trivial⟩
theorem lk_mono {j : Nat} : ∀ {k : Nat} {d : D}, lkOk j d → j ≤ k → lkOk k d := by
  induction j with
  | zero => intro k d h; exact h.elim
  | succ j ih =>
    intro k d h hk
    cases k with
    | zero => omega
    | succ k =>
      cases d with
      | list xs => exact ⟨h.1, fun x hx => ih (h.2 x hx) (by omega)⟩
      | tuple xs => exact ⟨h.1, fun x hx => ih (h.2 x hx) (by omega)⟩
      | dict _ => exact h.elim
      | none => trivial
      | bool _ => trivial
      | int _ => trivial
      | str _ => trivial
/-! ### turned over or not -/
def Hn.isOver : Hn → Bool
  | .over => true
  | _ => false
def overs (r : List Hn) : Nat := r.countP Hn.isOver
theorem pl_row (r : List Hn) : PyData.plainAll (r.map Hn.d) = true := pl_all fun x hx => by
  obtain ⟨h, _, rfl⟩ := List.mem_map.mp hx
  exact pl_hn
theorem count_row (r : List Hn) : dCount (rowD r) (.str "over") = some (.int (overs r)) := by
  unfold rowD dCount overs
  simp only [pl_row, okD_str, and_self, if_true]
  rw [List.countP_map]
  have e : ((fun y => PyData.eqv y (PyData.str (Str.ofString "over"))) ∘ Hn.d) = Hn.isOver := by
    funext h
    cases h <;> simp [Hn.d, Hn.isOver]
  rw [e]
end PP

namespace PP
open PySem PySem.Spec PyProof.Rows L2
/-! ### a handling done on a list -/
def hdl (h : Hn) (xs : List D) : List D := (List.range xs.length).map fun (p : Nat) => xs.getD (ft h xs.length p).toNat .none
theorem hdl_len {h : Hn} {xs : List D} : (hdl h xs).length = xs.length := by unfold hdl; simp
theorem hdl_of {h : Hn} {xs l : List D} (hl : l.length = xs.length) (hp : ∀ p : Nat, p < xs.length → l[p]? = xs[(ft h xs.length p).toNat]?) : l = hdl h xs := by
  apply List.ext_getElem?
  intro p
  by_cases c : p < xs.length
  · rw [hp p c]
    unfold hdl
    rw [List.getElem?_map, List.getElem?_range c]
    have hr := ft_range h (n := xs.length) (p := p) (by omega) (by omega)
    have hb : (ft h xs.length p).toNat < xs.length := by omega
    rw [List.getElem?_eq_getElem hb]
    simp [List.getD, List.getElem?_eq_getElem hb]
  · rw [List.getElem?_eq_none (by omega), List.getElem?_eq_none (by rw [hdl_len]; omega)]
theorem cut_from (xs : List D) (k : Nat) (h : k ≤ xs.length) : cutD xs (some (k : Int)) none = xs.drop k := by
  unfold cutD
  rw [HT.sIx_nat, HT.sIx_none, Nat.min_eq_left h]
  exact List.take_of_length_le (by simp)
theorem cut_to (xs : List D) (k : Nat) (h : k ≤ xs.length) : cutD xs none (some (k : Int)) = xs.take k := by
  unfold cutD
  rw [HT.sIx_nat, HT.sIx_none, Nat.min_eq_left h]
  simp
theorem filterMap_get {xs : List D} {g : Nat → Nat} : ∀ {l : List Nat}, (∀ k ∈ l, g k < xs.length) → (l.filterMap fun k => xs[g k]?) = l.map fun k => xs.getD (g k) .none
  | [], _ => rfl
  | k :: l, h => by
    have hk := h k (by simp)
    rw [List.filterMap_cons_some (f := fun k => xs[g k]?) (List.getElem?_eq_getElem hk), filterMap_get fun j hj => h j (by simp [hj]), List.map_cons]
    simp [List.getD, List.getElem?_eq_getElem hk]
theorem pick_even (xs : List D) : pickL xs none none (some 2) = (List.range ((xs.length + 1) / 2)).map fun k => xs.getD (2 * k) .none := by
  unfold pickL sliceBounds sliceRange
  have e : (if (0 : Int) < (xs.length : Int) then ((xs.length : Int) - 0 + 2 - 1) / 2 else 0).toNat = (xs.length + 1) / 2 := by split <;> omega
  simp only [Option.getD_some, show (2 : Int) > 0 by decide, if_true, e]
  rw [List.filterMap_map]
  have e2 : ((fun (i : Nat) => xs[i]?) ∘ fun (k : Nat) => ((0 : Int) + 2 * (k : Int)).toNat) = fun k => xs[2 * k]? := by
    funext k
    show xs[((0 : Int) + 2 * (k : Int)).toNat]? = _
    rw [show ((0 : Int) + 2 * (k : Int)).toNat = 2 * k by omega]
  rw [e2, filterMap_get fun k hk => by have := List.mem_range.mp hk; omega]
theorem pick_odd (xs : List D) : pickL xs (some 1) none (some 2) = (List.range (xs.length / 2)).map fun k => xs.getD (2 * k + 1) .none := by
  unfold pickL sliceBounds sliceRange
  by_cases c : xs.length = 0
  · have : xs = [] := List.length_eq_zero_iff.mp c
    subst this
    rfl
  · have e1 : max 0 (min (1 : Int) (xs.length : Int)) = 1 := by omega
    have e : (if (1 : Int) < (xs.length : Int) then ((xs.length : Int) - 1 + 2 - 1) / 2 else 0).toNat = xs.length / 2 := by split <;> omega
    simp only [Option.getD_some, show (2 : Int) > 0 by decide, if_true, show ¬ (1 : Int) < 0 by decide, if_false, e1, e]
    rw [List.filterMap_map]
    have e2 : ((fun (i : Nat) => xs[i]?) ∘ fun (k : Nat) => ((1 : Int) + 2 * (k : Int)).toNat) = fun k => xs[2 * k + 1]? := by
      funext k
      show xs[((1 : Int) + 2 * (k : Int)).toNat]? = _
      rw [show ((1 : Int) + 2 * (k : Int)).toNat = 2 * k + 1 by omega]
    rw [e2, filterMap_get fun k hk => by have := List.mem_range.mp hk; omega]
def weave : List D → List D → List D
  | [], _ => []
  | x :: a, [] => x :: weave a []
  | x :: a, y :: b => x :: y :: weave a b
theorem weave_nil : ∀ a, weave a [] = a
  | [] => rfl
  | x :: a => by unfold weave; rw [weave_nil a]
theorem weave_cons (x : D) (a b : List D) : weave (x :: a) b = x :: (b.take 1 ++ weave a (b.drop 1)) := by
  cases b with
  | nil => rfl
  | cons y b => rfl
theorem weave_len : ∀ (a b : List D), b.length ≤ a.length → (weave a b).length = a.length + b.length
  | [], b, h => by
    have : b = [] := List.length_eq_zero_iff.mp (by simpa using h)
    subst this
    rfl
  | x :: a, [], h => by rw [weave_nil]; simp
  | x :: a, y :: b, h => by
    unfold weave
    have := weave_len a b (by simpa using h)
    simp only [List.length_cons]
    omega
theorem weave_get : ∀ (a b : List D) (p : Nat), b.length ≤ a.length → a.length ≤ b.length + 1 → (weave a b)[p]? = if p % 2 = 0 then a[p / 2]? else b[p / 2]?
  | [], b, p, h, _ => by
    have : b = [] := List.length_eq_zero_iff.mp (by simpa using h)
    subst this
    simp [weave]
  | x :: a, [], p, h, h2 => by
    have : a = [] := by simpa using h2
    subst this
    rw [weave_nil]
    by_cases c : p = 0
    · subst c; rfl
    · rw [List.getElem?_eq_none (by simp; omega)]
      split
      · rw [List.getElem?_eq_none (by simp; omega)]
      · simp
  | x :: a, y :: b, p, h, h2 => by
    unfold weave
    match p with
    | 0 => rfl
    | 1 => rfl
    | p + 2 =>
      have ih := weave_get a b p (by simpa using h) (by simpa using h2)
      rw [List.getElem?_cons_succ, List.getElem?_cons_succ, ih, Nat.add_mod_right, show (p + 2) / 2 = p / 2 + 1 by omega, List.getElem?_cons_succ, List.getElem?_cons_succ]
theorem woven_eq (a b : List D) (t : T) (ha : a.length ≤ 1000) (hb : b.length ≤ 1000) : f_law_woven [.list a, .list b] t = some (.list (weave a b), t) := by
  have hw : ∃ d, sem_law_woven (startE 4 [.list a, .list b]) t = some (.rt d t) ∧ d = .list (weave a b) := by
    have hl0 : 0 ≤ LIM := Nat.zero_le _
    have hi : okI (a.length : Int) = true := okI_len (by show _ ≤ 100000; omega)
    obtain ⟨e2, t2, h1, f, x, rfl, h2, h3, rfl⟩ := loop_invN (is := [3]) (sp := spN) (body := sSeq (sApp 2 (useV [2] (cBin dIx (cVar 0) (cVar 3)))) (sExt 2 (useV [2] (cSl (cVar 1) (oAt (cVar 3)) (oAt (cBin dAdd (cVar 3) (cC (.int 1))))))))
      (I := fun k e t' => ∃ f x, e = [some (.list a), some (.list b), some (.list f), x] ∧ f ++ weave (a.drop k) (b.drop k) = weave a b ∧ f.length ≤ 2 * k ∧ t' = t) (rng 0 a.length) 0 [some (.list a), some (.list b), some (.list []), none] t (fun i d hd e t' hi => by
        obtain ⟨f, x, rfl, h1, h2, rfl⟩ := hi
        obtain ⟨hi, rfl⟩ := rng_at hd
        rw [Nat.zero_add] at h1 h2 ⊢
        have e1 : cutD b (some ((i : Nat) : Int)) (some ((i : Int) + 1)) = (b.drop i).take 1 := by
          unfold cutD
          rw [show ((i : Int) + 1) = ((i + 1 : Nat) : Int) by omega, HT.sIx_nat, HT.sIx_nat]
          by_cases c : i < b.length
          · rw [Nat.min_eq_left (by omega), Nat.min_eq_left (by omega), Nat.add_sub_cancel_left]
          · rw [Nat.min_eq_right (by omega), Nat.min_eq_right (by omega), Nat.sub_self, List.drop_of_length_le (Nat.le_refl _), List.drop_of_length_le (by omega)]
            rfl
        have l1 : f.length < LIM := by show _ < 100000; omega
        have l2 : f.length + 1 + ((b.drop i).take 1).length ≤ LIM := by
          show _ ≤ 100000
          rw [List.length_take]
          omega
        simp only [List.length_take] at l2
        refine ⟨_, [some (.list a), some (.list b), some (.list (f ++ [a[i]] ++ (b.drop i).take 1)), some (.int (0 + i))], t', rfl, ?_, _, _, rfl, ?_, ?_, rfl⟩
        · simp [at_nat hi, l1, dSl, e1]
          simp at l2
          exact l2
        · rw [List.drop_eq_getElem_cons hi, weave_cons, List.drop_drop] at h1
          rw [← h1]
          simp
        · simp only [List.length_append, List.length_take, List.length_cons, List.length_nil]
          omega) ⟨[], none, rfl, by simp, by simp, rfl⟩
    rw [Nat.zero_add, rng_len, List.drop_of_length_le (Nat.le_refl _)] at h2
    refine ⟨_, ?_, rfl⟩
    simp [sem_law_woven, hl0, hi, h1]
    rw [← h2]
    simp [weave]
  obtain ⟨d, h1, rfl⟩ := hw
  unfold f_law_woven fnSem
  rw [h1]
theorem handled_eq (h : Hn) (xs : List D) (t : T) (hx : xs.length ≤ 1000) (h0 : 0 < xs.length) : f_law_handled [h.d, .list xs] t = some (.list (hdl h xs), t) := by
  have l2 : 2 ≤ LIM := by decide
  have lx : xs.length ≤ LIM := by show _ ≤ 100000; omega
  have hrev : xs.reverse = hdl .over xs := hdl_of (by simp) fun p hp => by
    rw [List.getElem?_reverse hp]
    simp only [ft]
    rw [show xs.length - 1 - p = ((xs.length : Int) - 1 - p).toNat by omega]
  have hrev2 : xs.reverse = hdl .count xs := hrev
  have d2 : ((xs.length : Int) / 2) = ((xs.length / 2 : Nat) : Int) := by omega
  have d3 : (((xs.length : Int) + 1) / 2) = (((xs.length + 1) / 2 : Nat) : Int) := by omega
  have hund : xs.drop 1 ++ xs.take 1 = hdl .under xs := hdl_of (by simp; omega) fun p hp => by
    simp only [ft]
    rw [wrap_mod (by omega) (by omega), List.getElem?_append, List.length_drop, List.getElem?_drop, List.getElem?_take]
    split
    · rw [if_pos (by omega), show 1 + p = ((p : Int) + 1).toNat by omega]
    · rw [if_pos (by omega), if_neg (by omega), show p - (xs.length - 1) = ((p : Int) + 1 - xs.length).toNat by omega]
  have hcut : xs.drop (xs.length / 2) ++ xs.take (xs.length / 2) = hdl .cut xs := hdl_of (by simp; omega) fun p hp => by
    simp only [ft]
    rw [wrap_mod (by omega) (by omega), List.getElem?_append, List.length_drop, List.getElem?_drop, List.getElem?_take]
    split
    · rw [if_pos (by omega), show xs.length / 2 + p = ((p : Int) + xs.length / 2).toNat by omega]
    · rw [if_pos (by omega), if_neg (by omega), show p - (xs.length - xs.length / 2) = ((p : Int) + xs.length / 2 - xs.length).toNat by omega]
  have gD : ∀ k, k < xs.length → some (xs.getD k .none) = xs[k]? := fun k hk => by simp [List.getD, List.getElem?_eq_getElem hk]
  have hev : ∀ p, p < (xs.length + 1) / 2 → (((List.range ((xs.length + 1) / 2)).map fun k => xs.getD (2 * k) .none).reverse)[p]? = xs[2 * ((xs.length + 1) / 2 - 1 - p)]? := fun p hp => by
    rw [List.getElem?_reverse (by simpa using hp), List.getElem?_map, List.length_map, List.length_range, List.getElem?_range (by omega), Option.map_some, gD _ (by omega)]
  have hod : ∀ p, p < xs.length / 2 → (((List.range (xs.length / 2)).map fun k => xs.getD (2 * k + 1) .none).reverse)[p]? = xs[2 * (xs.length / 2 - 1 - p) + 1]? := fun p hp => by
    rw [List.getElem?_reverse (by simpa using hp), List.getElem?_map, List.length_map, List.length_range, List.getElem?_range (by omega), Option.map_some, gD _ (by omega)]
  have hleft : ((List.range ((xs.length + 1) / 2)).map fun k => xs.getD (2 * k) .none).reverse ++ ((List.range (xs.length / 2)).map fun k => xs.getD (2 * k + 1) .none).reverse = hdl .left xs := hdl_of (by simp; omega) fun p hp => by
    rw [List.getElem?_append, List.length_reverse, List.length_map, List.length_range]
    simp only [ft]
    split
    · rw [hev p (by omega), if_pos (by omega)]
      congr 1
      omega
    · rw [hod _ (by omega), if_neg (by omega)]
      congr 1
      omega
  have hright : ((List.range (xs.length / 2)).map fun k => xs.getD (2 * k + 1) .none).reverse ++ ((List.range ((xs.length + 1) / 2)).map fun k => xs.getD (2 * k) .none).reverse = hdl .right xs := hdl_of (by simp; omega) fun p hp => by
    rw [List.getElem?_append, List.length_reverse, List.length_map, List.length_range]
    simp only [ft]
    split
    · rw [hod p (by omega), if_pos (by omega)]
      congr 1
      omega
    · rw [hev _ (by omega), if_neg (by omega)]
      congr 1
      omega
  have hout : weave (xs.take ((xs.length + 1) / 2)) (xs.drop ((xs.length + 1) / 2)) = hdl .out xs := hdl_of (by rw [weave_len _ _ (by simp; omega)]; simp; omega) fun p hp => by
    rw [weave_get _ _ _ (by simp; omega) (by simp; omega), List.getElem?_take, List.getElem?_drop]
    simp only [ft]
    split
    · rw [if_pos (by omega), if_pos (by omega)]
      congr 1
    · rw [if_neg (by omega)]
      congr 1
      omega
  have hin : weave (xs.drop (xs.length / 2)) (xs.take (xs.length / 2)) = hdl .inn xs := hdl_of (by rw [weave_len _ _ (by simp; omega)]; simp; omega) fun p hp => by
    rw [weave_get _ _ _ (by simp; omega) (by simp; omega), List.getElem?_take, List.getElem?_drop]
    simp only [ft]
    split
    · rw [if_pos (by omega)]
      congr 1
    · rw [if_pos (by omega), if_neg (by omega)]
      congr 1
  have c1 : cutD xs (some 1) none = xs.drop 1 := cut_from xs 1 (by omega)
  have c2 : cutD xs none (some 1) = xs.take 1 := cut_to xs 1 (by omega)
  have c3 : cutD xs (some ((xs.length : Int) / 2)) none = xs.drop (xs.length / 2) := by rw [d2]; exact cut_from xs (xs.length / 2) (by omega)
  have c4 : cutD xs none (some ((xs.length : Int) / 2)) = xs.take (xs.length / 2) := by rw [d2]; exact cut_to xs (xs.length / 2) (by omega)
  have c5 : cutD xs (some (((xs.length : Int) + 1) / 2)) none = xs.drop ((xs.length + 1) / 2) := by rw [d3]; exact cut_from xs ((xs.length + 1) / 2) (by omega)
  have c6 : cutD xs none (some (((xs.length : Int) + 1) / 2)) = xs.take ((xs.length + 1) / 2) := by rw [d3]; exact cut_to xs ((xs.length + 1) / 2) (by omega)
  have w1 := woven_eq (xs.take ((xs.length + 1) / 2)) (xs.drop ((xs.length + 1) / 2)) t (by simp; omega) (by simp; omega)
  have w2 := woven_eq (xs.drop (xs.length / 2)) (xs.take (xs.length / 2)) t (by simp; omega) (by simp; omega)
  have add : ∀ a b : List D, a.length + b.length ≤ 1000 → dAdd (.list a) (.list b) = some (.list (a ++ b)) := fun a b h => if_pos (by show _ ≤ 100000; omega)
  have a1 := add (xs.drop 1) (xs.take 1) (by simp; omega)
  have a2 := add (xs.drop (xs.length / 2)) (xs.take (xs.length / 2)) (by simp; omega)
  have a3 := add ((List.range ((xs.length + 1) / 2)).map fun k => xs.getD (2 * k) .none).reverse ((List.range (xs.length / 2)).map fun k => xs.getD (2 * k + 1) .none).reverse (by simp; omega)
  have a4 := add ((List.range (xs.length / 2)).map fun k => xs.getD (2 * k + 1) .none).reverse ((List.range ((xs.length + 1) / 2)).map fun k => xs.getD (2 * k) .none).reverse (by simp; omega)
  rw [hleft] at a3
  rw [hright] at a4
  rw [hund] at a1
  rw [hcut] at a2
  rw [hout] at w1
  rw [hin] at w2
  have p1 : dPick (.list xs) none none (some 2) = some (.list ((List.range ((xs.length + 1) / 2)).map fun k => xs.getD (2 * k) .none)) := by
    rw [← pick_even]
    simp [dPick]
  have p2 : dPick (.list xs) (some 1) none (some 2) = some (.list ((List.range (xs.length / 2)).map fun k => xs.getD (2 * k + 1) .none)) := by
    rw [← pick_odd]
    simp [dPick]
  generalize (List.range ((xs.length + 1) / 2)).map (fun k => xs.getD (2 * k) .none) = evs at *
  generalize (List.range (xs.length / 2)).map (fun k => xs.getD (2 * k + 1) .none) = ods at *
  cases h
  case over => simp [f_law_handled, sem_law_handled, fnSem, Hn.d, l2, dRev, hrev]
  case count => simp [f_law_handled, sem_law_handled, fnSem, Hn.d, l2, dRev, hrev2]
  case under => simp [f_law_handled, sem_law_handled, fnSem, Hn.d, l2, dSl, c1, c2, a1, -List.drop_one]
  case cut => simp [f_law_handled, sem_law_handled, fnSem, Hn.d, l2, dSl, c3, c4, a2]
  case left => simp [f_law_handled, sem_law_handled, fnSem, Hn.d, l2, dRev, p1, p2, a3]
  case right => simp [f_law_handled, sem_law_handled, fnSem, Hn.d, l2, dRev, p1, p2, a4]
  case out => simp [f_law_handled, sem_law_handled, fnSem, Hn.d, l2, dSl, c5, c6, w1]
  case inn => simp [f_law_handled, sem_law_handled, fnSem, Hn.d, l2, dSl, c3, c4, w2]
/-! ### a row done on a pile -/
def laidD (r : List Hn) (n : Nat) : List D := (List.range n).map fun (p : Nat) => .int (sht r n p)
theorem laidD_len {r : List Hn} {n : Nat} : (laidD r n).length = n := by unfold laidD; simp
theorem sht_snoc (h : Hn) (r : List Hn) (n p : Int) : sht (r ++ [h]) n p = sht r n (ft h n p) := by
  unfold sht
  rw [List.reverse_append]
  rfl
theorem laidD_snoc (h : Hn) (r : List Hn) (n : Nat) : laidD (r ++ [h]) n = hdl h (laidD r n) := hdl_of (by rw [laidD_len, laidD_len]) fun p hp => by
  rw [laidD_len] at hp ⊢
  have hr := ft_range h (n := n) (p := p) (by omega) (by omega)
  have hb : (ft h n p).toNat < n := by omega
  unfold laidD
  rw [List.getElem?_map, List.getElem?_range hp, List.getElem?_map, List.getElem?_range hb]
  show some (PyData.int (sht (r ++ [h]) n p)) = some (PyData.int (sht r n ((ft h n p).toNat : Int)))
  rw [sht_snoc, Int.toNat_of_nonneg hr.1]
theorem laidD_nil (n : Nat) : laidD [] n = rng 0 n := by
  unfold laidD
  rw [rng_map]
  exact List.map_congr_left fun i _ => by show PyData.int (i : Int) = _; rw [Int.zero_add]
theorem filt_yes {α : Type} : ∀ l : List α, l.filter (fun _ => true) = l
  | [] => rfl
  | a :: l => congrArg (a :: ·) (filt_yes l)
theorem law_laid_eq (r : List Hn) (n : Nat) (t : T) (h0 : 0 < n) (h1 : n ≤ 1000) : f_law_laid [rowD r, .int n] t = some (.list (laidD r n), t) := by
  have hg : okRg 0 (n : Int) = true := okRg_of (by omega) (by omega) (by omega) (by omega)
  have hl := loop_fold (is := [3]) (sp := spN) (body := sSet 2 (cCall f_law_handled (aCons (cVar 3) (aCons (cVar 2) aNil)))) Hn.d
    (fun s : List Hn × Option D => [some (rowD r), some (.int n), some (.list (laidD s.1 n)), s.2]) (fun s h => (s.1 ++ [h], some h.d)) (fun _ => True) (fun _ => True)
    (fun s h t _ _ => ⟨_, rfl, by
      have e := handled_eq h (laidD s.1 n) t (by rw [laidD_len]; exact h1) (by rw [laidD_len]; exact h0)
      simp [e, laidD_snoc], trivial⟩) r ([], none) t trivial (fun _ _ => trivial)
  have hf := fold_fst (fun (s : List Hn) h => s ++ [h]) (fun _ h => some h.d) r
  have hs : ∀ (l s : List Hn), l.foldl (fun s h => s ++ [h]) s = s ++ l := by
    intro l
    induction l with
    | nil => intro s; simp
    | cons h l ih => intro s; rw [List.foldl_cons, ih]; simp
  rw [laidD_nil] at hl
  simp [rowD, hf, hs] at hl
  simp [f_law_laid, sem_law_laid, fnSem, rowD, hg, hl]
theorem turns_eq (r : List Hn) (t : T) (hl : r.length ≤ LIM) : f_law_turns [rowD r] t = some (.bool (decide (overs r % 2 = 1)), t) := by
  have hc := fun e => comp_map (is := [1]) (sp := spN) (test := cTest (cBin (dEq false) (cVar 1) (cC (.str "over")))) (elt := cVar 1) Hn.d Hn.isOver Hn.d [some (rowD r), e] t r (fun a _ => ⟨_, rfl, by cases a <;> simp [Hn.d, Hn.isOver], fun _ => rfl⟩)
  have hp : (r.filter Hn.isOver).length = overs r := by unfold overs; rw [List.countP_eq_length_filter]
  have hl2 : overs r ≤ LIM := by rw [← hp]; exact Nat.le_trans (List.length_filter_le _ _) hl
  simp [f_law_turns, sem_law_turns, fnSem, rowD] at hc ⊢
  simp [hc, hp, hl2]
  omega
end PP

namespace PP
open PySem PySem.Spec PyProof.Rows L2

/-! ### lists without the same thing twice -/
theorem nd_le {α : Type} [DecidableEq α] : ∀ (l m : List α), l.Nodup → (∀ x ∈ l, x ∈ m) → l.length ≤ m.length
  | [], _, _, _ => Nat.zero_le _
  | a :: l, m, h, hs => by
    obtain ⟨h1, h2⟩ := List.nodup_cons.mp h
    have ha := hs a (by simp)
    have ih := nd_le l (m.erase a) h2 fun x hx => (List.mem_erase_of_ne (fun z => h1 (by rw [← z]; exact hx))).mpr (hs x (by simp [hx]))
    rw [List.length_erase_of_mem ha] at ih
    have : 0 < m.length := List.length_pos_of_mem ha
    simp only [List.length_cons]
    omega
theorem nd_onto {α : Type} [DecidableEq α] (l m : List α) (hl : l.Nodup) (hs : ∀ x ∈ l, x ∈ m) (hz : m.length ≤ l.length) : ∀ x ∈ m, x ∈ l := by
  intro x hx
  by_cases c : x ∈ l
  · exact c
  · have := nd_le l (m.erase x) hl fun y hy => (List.mem_erase_of_ne (fun z => c (by rw [← z]; exact hy))).mpr (hs y hy)
    rw [List.length_erase_of_mem hx] at this
    have : 0 < m.length := List.length_pos_of_mem hx
    omega
/-- all rows of k of some things, none twice -/
def inj {α : Type} [DecidableEq α] : List α → Nat → List (List α)
  | _, 0 => [[]]
  | A, k + 1 => A.flatMap fun a => (inj (A.erase a) k).map (a :: ·)
def fac : Nat → Nat
  | 0 => 1
  | n + 1 => (n + 1) * fac n
theorem inj_mem {α : Type} [DecidableEq α] : ∀ (k : Nat) (A : List α) (xs : List α), A.Nodup → (xs ∈ inj A k ↔ xs.length = k ∧ xs.Nodup ∧ ∀ x ∈ xs, x ∈ A)
  | 0, A, xs, _ => by
    unfold inj
    rw [List.mem_singleton]
    constructor
    · rintro rfl; exact ⟨rfl, List.nodup_nil, fun x hx => nomatch hx⟩
    · rintro ⟨h, _⟩; exact List.length_eq_zero_iff.mp h
  | k + 1, A, xs, hA => by
    unfold inj
    rw [List.mem_flatMap]
    constructor
    · rintro ⟨a, ha, hx⟩
      obtain ⟨ys, hy, rfl⟩ := List.mem_map.mp hx
      obtain ⟨h1, h2, h3⟩ := (inj_mem k (A.erase a) ys (hA.erase a)).mp hy
      refine ⟨by rw [List.length_cons, h1], List.nodup_cons.mpr ⟨fun z => ?_, h2⟩, fun x hx => ?_⟩
      · exact (List.Nodup.mem_erase_iff hA).mp (h3 a z) |>.1 rfl
      · rcases List.mem_cons.mp hx with rfl | hx
        · exact ha
        · exact List.mem_of_mem_erase (h3 x hx)
    · rintro ⟨h1, h2, h3⟩
      cases xs with
      | nil => cases h1
      | cons a ys =>
        obtain ⟨k1, k2⟩ := List.nodup_cons.mp h2
        refine ⟨a, h3 a (by simp), List.mem_map.mpr ⟨ys, (inj_mem k (A.erase a) ys (hA.erase a)).mpr ⟨by simpa using h1, k2, fun x hx => ?_⟩, rfl⟩⟩
        exact (List.Nodup.mem_erase_iff hA).mpr ⟨fun z => k1 (z ▸ hx), h3 x (by simp [hx])⟩
theorem inj_len {α : Type} [DecidableEq α] : ∀ (n : Nat) (A : List α), A.length = n → (inj A n).length = fac n
  | 0, A, _ => rfl
  | n + 1, A, h => by
    unfold inj fac
    have key : ∀ B : List α, (∀ b ∈ B, b ∈ A) → (B.flatMap fun a => (inj (A.erase a) n).map (a :: ·)).length = B.length * fac n := by
      intro B
      induction B with
      | nil => intro _; simp
      | cons b B ih =>
        intro hb
        rw [List.flatMap_cons, List.length_append, ih fun c hc => hb c (by simp [hc]), List.length_map, inj_len n (A.erase b) (by rw [List.length_erase_of_mem (hb b (by simp)), h]; rfl), List.length_cons, Nat.add_mul, Nat.one_mul]
        omega
    rw [key A fun _ h => h, h]
theorem inj_nodup {α : Type} [DecidableEq α] : ∀ (n : Nat) (A : List α), A.Nodup → (inj A n).Nodup
  | 0, A, _ => by unfold inj; simp
  | n + 1, A, h => by
    unfold inj
    have key : ∀ B : List α, B.Nodup → (B.flatMap fun a => (inj (A.erase a) n).map (a :: ·)).Nodup := by
      intro B
      induction B with
      | nil => intro _; simp
      | cons b B ih =>
        intro hb
        obtain ⟨h1, h2⟩ := List.nodup_cons.mp hb
        rw [List.flatMap_cons, List.nodup_append]
        refine ⟨?_, ih h2, ?_⟩
        · exact (inj_nodup n (A.erase b) (h.erase b)).map (f := (b :: ·)) fun x y hxy z => hxy (List.cons.inj z).2
        · intro x hx y hy e
          obtain ⟨u, _, rfl⟩ := List.mem_map.mp hx
          obtain ⟨c, hc, hy⟩ := List.mem_flatMap.mp hy
          obtain ⟨v, _, rfl⟩ := List.mem_map.mp hy
          exact h1 ((List.cons.inj e).1 ▸ hc)
    exact key A h

/-! ### piles: the sheets, whether they lie on the other side -/
abbrev Pl := List Int × Bool
def hI (h : Hn) (xs : List Int) : List Int := (List.range xs.length).map fun (p : Nat) => xs.getD (ft h xs.length p).toNat 0
def stp (h : Hn) (s : Pl) : Pl := (hI h s.1, s.2 != decide (h = .over))
def sheets (n : Nat) : List Int := (List.range n).map fun (i : Nat) => (i : Int)
def beg (n : Nat) : Pl := (sheets n, false)
/-- a row of all n sheets -/
def okP (n : Nat) (s : Pl) : Prop := s.1.length = n ∧ s.1.Nodup ∧ ∀ x ∈ s.1, x ∈ sheets n
theorem sheets_len (n : Nat) : (sheets n).length = n := by unfold sheets; simp
theorem sheets_nodup (n : Nat) : (sheets n).Nodup := by
  unfold sheets
  exact List.nodup_range.map (f := fun (i : Nat) => (i : Int)) fun a b h z => h (Int.ofNat.inj z)
theorem okP_beg (n : Nat) : okP n (beg n) := ⟨sheets_len n, sheets_nodup n, fun _ h => h⟩
theorem hI_len (h : Hn) (xs : List Int) : (hI h xs).length = xs.length := by unfold hI; simp
theorem hI_get (h : Hn) (xs : List Int) {p : Nat} (hp : p < xs.length) : (hI h xs)[p]? = xs[(ft h xs.length p).toNat]? := by
  have hr := ft_range h (n := xs.length) (p := p) (by omega) (by omega)
  unfold hI
  rw [List.getElem?_map, List.getElem?_range hp, List.getElem?_eq_getElem (by omega)]
  simp [List.getD, List.getElem?_eq_getElem (show (ft h xs.length p).toNat < xs.length by omega)]
theorem hI_mem {h : Hn} {xs : List Int} {x : Int} (hx : x ∈ hI h xs) : x ∈ xs := by
  obtain ⟨p, hp, e⟩ := List.mem_iff_getElem.mp hx
  rw [hI_len] at hp
  have e2 := hI_get h xs hp
  rw [List.getElem?_eq_getElem (by rw [hI_len]; exact hp), e] at e2
  exact List.mem_of_getElem? e2.symm
theorem nd_inj {α : Type} {xs : List α} (hn : xs.Nodup) {i j : Nat} (hi : i < xs.length) (hj : j < xs.length) (e : xs[i] = xs[j]) : i = j := by
  have h := List.pairwise_iff_getElem.mp hn
  rcases Nat.lt_trichotomy i j with z | z | z
  · exact absurd e (h i j hi hj z)
  · exact z
  · exact absurd e.symm (h j i hj hi z)
theorem hI_nodup (h : Hn) {xs : List Int} (hn : xs.Nodup) : (hI h xs).Nodup := by
  unfold List.Nodup
  rw [List.pairwise_iff_getElem]
  intro i j hi hj hij e
  rw [hI_len] at hi hj
  have e1 := hI_get h xs hi
  have e2 := hI_get h xs hj
  rw [List.getElem?_eq_getElem (by rw [hI_len]; exact hi)] at e1
  rw [List.getElem?_eq_getElem (by rw [hI_len]; exact hj), ← e] at e2
  have r1 := ft_range h (n := xs.length) (p := i) (by omega) (by omega)
  have r2 := ft_range h (n := xs.length) (p := j) (by omega) (by omega)
  rw [e1, List.getElem?_eq_getElem (by omega), List.getElem?_eq_getElem (by omega)] at e2
  have e3 := nd_inj hn _ _ (Option.some.inj e2)
  have e4 : ft h xs.length i = ft h xs.length j := by omega
  have := congrArg (mv h xs.length) e4
  rw [mv_ft h (by omega) (by omega), mv_ft h (by omega) (by omega)] at this
  omega
theorem okP_stp {n : Nat} {s : Pl} (h : Hn) (k : okP n s) : okP n (stp h s) :=
  ⟨by show (hI h s.1).length = n; rw [hI_len]; exact k.1, hI_nodup h k.2.1, fun x hx => k.2.2 x (hI_mem hx)⟩
def allS (n : Nat) : List Pl := (inj (sheets n) n).map (·, false) ++ (inj (sheets n) n).map (·, true)
theorem allS_len (n : Nat) : (allS n).length = 2 * fac n := by
  unfold allS
  rw [List.length_append, List.length_map, List.length_map, inj_len n _ (sheets_len n)]
  omega
theorem allS_mem {n : Nat} {s : Pl} : s ∈ allS n ↔ okP n s := by
  unfold allS okP
  rw [List.mem_append, List.mem_map, List.mem_map, ← inj_mem n (sheets n) s.1 (sheets_nodup n)]
  constructor
  · rintro (⟨xs, h, rfl⟩ | ⟨xs, h, rfl⟩) <;> exact h
  · intro h
    obtain ⟨xs, b⟩ := s
    cases b
    · exact .inl ⟨xs, h, rfl⟩
    · exact .inr ⟨xs, h, rfl⟩
theorem allS_nodup (n : Nat) : (allS n).Nodup := by
  unfold allS
  have hn := inj_nodup n (sheets n) (sheets_nodup n)
  rw [List.nodup_append]
  refine ⟨hn.map (f := fun xs => ((xs, false) : Pl)) fun a b h z => h (Prod.mk.inj z).1, hn.map (f := fun xs => ((xs, true) : Pl)) fun a b h z => h (Prod.mk.inj z).1, ?_⟩
  intro x hx y hy e
  obtain ⟨u, _, rfl⟩ := List.mem_map.mp hx
  obtain ⟨v, _, rfl⟩ := List.mem_map.mp hy
  cases (Prod.mk.inj e).2

/-! ### what can be reached: the search -/
section
variable {α : Type}
def look (f : List (Pl × α)) (s : Pl) : Option α := (f.find? fun x => decide (x.1 = s)).map (·.2)
theorem look_none {f : List (Pl × α)} {s : Pl} : look f s = none ↔ s ∉ f.map (·.1) := by
  unfold look
  rw [Option.map_eq_none_iff, List.find?_eq_none]
  constructor
  · intro h z
    obtain ⟨x, hx, rfl⟩ := List.mem_map.mp z
    exact h x hx (decide_eq_true rfl)
  · intro h x hx z
    exact h (List.mem_map.mpr ⟨x, hx, of_decide_eq_true z⟩)
theorem look_some {f : List (Pl × α)} {s : Pl} (h : s ∈ f.map (·.1)) : ∃ a, look f s = some a := by
  cases q : look f s with
  | none => exact absurd h (look_none.mp q)
  | some a => exact ⟨a, rfl⟩
theorem look_app {f g : List (Pl × α)} {s : Pl} (h : s ∈ f.map (·.1)) : look (f ++ g) s = look f s := by
  unfold look
  rw [List.find?_append]
  obtain ⟨a, ha⟩ := look_some h
  unfold look at ha
  obtain ⟨x, hx, _⟩ := Option.map_eq_some_iff.mp ha
  rw [hx]
  rfl
theorem look_at {f : List (Pl × α)} (hn : (f.map (·.1)).Nodup) {x : Pl × α} (h : x ∈ f) : look f x.1 = some x.2 := by
  induction f with
  | nil => cases h
  | cons y f ih =>
    rw [List.map_cons, List.nodup_cons] at hn
    unfold look
    rw [List.find?_cons]
    rcases List.mem_cons.mp h with rfl | h
    · rw [decide_eq_true rfl]; rfl
    · have : y.1 ≠ x.1 := fun z => hn.1 (z ▸ List.mem_map_of_mem h)
      rw [decide_eq_false this]
      exact ih hn.2 h
end
abbrev Fd := List (Pl × Option (Pl × Hn))
def vis (fl : Fd × List Pl) (p : Pl) (h : Hn) : Fd × List Pl := if stp h p ∈ fl.1.map (·.1) then fl else (fl.1 ++ [(stp h p, some (p, h))], fl.2 ++ [stp h p])
def visP (hs : List Hn) (fl : Fd × List Pl) (p : Pl) : Fd × List Pl := hs.foldl (fun fl h => vis fl p h) fl
def lay (hs : List Hn) (f : Fd) (ly : List Pl) : Fd × List Pl := ly.foldl (visP hs) (f, [])
def srun (hs : List Hn) : Nat → Fd → List Pl → Fd
  | 0, f, _ => f
  | k + 1, f, ly => if ly = [] then f else srun hs k (lay hs f ly).1 (lay hs f ly).2
def srch (hs : List Hn) (n : Nat) : Fd := srun hs (2 * fac n) [(beg n, none)] [beg n]
/-- the lengths of the ways -/
def lenF (L : List (Pl × Nat)) (x : Pl × Option (Pl × Hn)) : List (Pl × Nat) := L ++ [(x.1, match x.2 with
  | none => 0
  | some (p, _) => (look L p).getD 0 + 1)]
def lensF (f : Fd) : List (Pl × Nat) := f.foldl lenF []
theorem lensF_app (f : Fd) (x : Pl × Option (Pl × Hn)) : lensF (f ++ [x]) = lenF (lensF f) x := by unfold lensF; rw [List.foldl_append]; rfl
theorem lensF_keys (f : Fd) : (lensF f).map (·.1) = f.map (·.1) := by
  have key : ∀ (f : Fd) (L : List (Pl × Nat)), ((f.foldl lenF L).map (·.1)) = L.map (·.1) ++ f.map (·.1) := by
    intro f
    induction f with
    | nil => intro L; simp
    | cons x f ih => intro L; rw [List.foldl_cons, ih]; unfold lenF; simp
  unfold lensF
  rw [key f []]
  rfl
theorem lensF_len (f : Fd) : (lensF f).length = f.length := by
  have := congrArg List.length (lensF_keys f)
  simpa using this
/-- what holds of the found ones, all the time -/
structure Gd (hs : List Hn) (n : Nat) (f : Fd) : Prop where
  nd : (f.map (·.1)).Nodup
  ok : ∀ x ∈ f, okP n x.1
  hd : ∃ r, f = (beg n, none) :: r
  par : ∀ i s a, f[i]? = some (s, a) → (a = none ∧ i = 0) ∨ ∃ p h j b, a = some (p, h) ∧ h ∈ hs ∧ s = stp h p ∧ j < i ∧ f[j]? = some (p, b)
theorem Gd.len {hs : List Hn} {n : Nat} {f : Fd} (g : Gd hs n f) : f.length ≤ 2 * fac n := by
  have := nd_le (f.map (·.1)) (allS n) g.nd fun x hx => by
    obtain ⟨y, hy, rfl⟩ := List.mem_map.mp hx
    exact allS_mem.mpr (g.ok y hy)
  rw [allS_len, List.length_map] at this
  exact this
theorem gd_beg (hs : List Hn) (n : Nat) : Gd hs n [(beg n, none)] where
  nd := by simp
  ok := fun x hx => by rw [List.mem_singleton] at hx; subst hx; exact okP_beg n
  hd := ⟨[], rfl⟩
  par := fun i s a e => by
    cases i with
    | zero => simp at e; exact .inl ⟨e.2.symm, rfl⟩
    | succ i => simp at e
theorem gd_vis {hs : List Hn} {n : Nat} {f : Fd} {l : List Pl} {p : Pl} {h : Hn} (g : Gd hs n f) (hh : h ∈ hs) (hp : p ∈ f.map (·.1)) : Gd hs n (vis (f, l) p h).1 := by
  unfold vis
  split
  · exact g
  · rename_i hn
    have hn : stp h p ∉ f.map (·.1) := hn
    obtain ⟨y, hy, rfl⟩ := List.mem_map.mp hp
    refine ⟨?_, fun x hx => ?_, ?_, fun i s a e => ?_⟩
    · show ((f ++ [(stp h y.1, some (y.1, h))]).map (·.1)).Nodup
      rw [List.map_append, List.nodup_append]
      refine ⟨g.nd, by simp, fun a ha b hb e => ?_⟩
      simp at hb
      subst e hb
      exact hn ha
    · rcases List.mem_append.mp hx with z | z
      · exact g.ok x z
      · rw [List.mem_singleton] at z; subst z; exact okP_stp h (g.ok y hy)
    · obtain ⟨r, e⟩ := g.hd
      exact ⟨r ++ [(stp h y.1, some (y.1, h))], by show f ++ _ = _; rw [e]; rfl⟩
    · have e : (f ++ [(stp h y.1, some (y.1, h))])[i]? = some (s, a) := e
      rcases Nat.lt_or_ge i f.length with z | z
      · rw [List.getElem?_append_left z] at e
        rcases g.par i s a e with k | ⟨p, h2, j, b, k1, k2, k3, k4, k5⟩
        · exact .inl k
        · exact .inr ⟨p, h2, j, b, k1, k2, k3, k4, by show (f ++ _)[j]? = _; rw [List.getElem?_append_left (by omega)]; exact k5⟩
      · rw [List.getElem?_append_right z] at e
        have hi : i - f.length = 0 := by
          rcases Nat.lt_or_ge (i - f.length) 1 with c | c
          · omega
          · rw [List.getElem?_eq_none (by simpa using c)] at e; cases e
        rw [hi] at e
        simp at e
        obtain ⟨j, hj, ej⟩ := List.mem_iff_getElem.mp hy
        obtain ⟨y1, y2⟩ := y
        refine .inr ⟨y1, h, j, y2, e.2.symm, hh, e.1.symm, by omega, ?_⟩
        show (f ++ _)[j]? = _
        rw [List.getElem?_append_left hj, List.getElem?_eq_getElem hj, ej]
theorem vis_sub {f : Fd} {l : List Pl} {p : Pl} {h : Hn} {s : Pl} (hs : s ∈ f.map (·.1)) : s ∈ (vis (f, l) p h).1.map (·.1) := by
  unfold vis
  split
  · exact hs
  · show s ∈ (f ++ _).map (·.1)
    rw [List.map_append]
    exact List.mem_append.mpr (.inl hs)
theorem vis_new {f : Fd} {l : List Pl} {p : Pl} {h : Hn} : stp h p ∈ (vis (f, l) p h).1.map (·.1) := by
  unfold vis
  split
  · assumption
  · show _ ∈ (f ++ _).map (·.1)
    rw [List.map_append]
    exact List.mem_append.mpr (.inr (by simp))
/-- the later ones: found, and as many as came -/
structure Lt (f0 : Fd) (f : Fd) (l : List Pl) : Prop where
  len : f.length = f0.length + l.length
  sub : ∀ s ∈ l, s ∈ f.map (·.1)
  old : ∀ s ∈ f0.map (·.1), s ∈ f.map (·.1)
  new : ∀ s ∈ f.map (·.1), s ∈ f0.map (·.1) ∨ s ∈ l
theorem lt_vis {f0 f : Fd} {l : List Pl} (h0 : Lt f0 f l) (p : Pl) (h : Hn) : Lt f0 (vis (f, l) p h).1 (vis (f, l) p h).2 := by
  unfold vis
  split
  · exact h0
  · refine ⟨?_, fun s hs => ?_, fun s hs => ?_, fun s hs => ?_⟩
    · show (f ++ _).length = _ + (l ++ _).length
      rw [List.length_append, List.length_append, h0.len]
      simp only [List.length_singleton]
      omega
    · show s ∈ (f ++ _).map (·.1)
      rw [List.map_append, List.mem_append]
      rcases List.mem_append.mp hs with z | z
      · exact .inl (h0.sub s z)
      · exact .inr (by simpa using z)
    · show s ∈ (f ++ _).map (·.1)
      rw [List.map_append, List.mem_append]
      exact .inl (h0.old s hs)
    · have hs : s ∈ (f ++ _).map (·.1) := hs
      rw [List.map_append, List.mem_append] at hs
      rcases hs with z | z
      · rcases h0.new s z with c | c
        · exact .inl c
        · exact .inr (List.mem_append.mpr (.inl c))
      · exact .inr (List.mem_append.mpr (.inr (by simpa using z)))
theorem visP_ok {hs : List Hn} {n : Nat} {f0 : Fd} : ∀ (gs : List Hn) (f : Fd) (l : List Pl) (p : Pl), (∀ h ∈ gs, h ∈ hs) → Gd hs n f → Lt f0 f l → p ∈ f.map (·.1) →
    Gd hs n (visP gs (f, l) p).1 ∧ Lt f0 (visP gs (f, l) p).1 (visP gs (f, l) p).2 ∧ (∀ s ∈ f.map (·.1), s ∈ (visP gs (f, l) p).1.map (·.1)) ∧ ∀ h ∈ gs, stp h p ∈ (visP gs (f, l) p).1.map (·.1)
  | [], f, l, p, _, g, t, hp => ⟨g, t, fun _ h => h, fun h hh => nomatch hh⟩
  | h :: gs, f, l, p, hg, g, t, hp => by
    have g1 := gd_vis (l := l) g (hg h (by simp)) hp
    have t1 := lt_vis t p h
    have ih := visP_ok gs (vis (f, l) p h).1 (vis (f, l) p h).2 p (fun x hx => hg x (by simp [hx])) g1 t1 (vis_sub hp)
    have e : visP (h :: gs) (f, l) p = visP gs ((vis (f, l) p h).1, (vis (f, l) p h).2) p := rfl
    rw [e]
    refine ⟨ih.1, ih.2.1, fun s hs => ih.2.2.1 s (vis_sub hs), fun x hx => ?_⟩
    rcases List.mem_cons.mp hx with rfl | hx
    · exact ih.2.2.1 _ vis_new
    · exact ih.2.2.2 x hx
theorem layer_ok {hs : List Hn} {n : Nat} {f0 : Fd} : ∀ (ly : List Pl) (f : Fd) (l : List Pl), Gd hs n f → Lt f0 f l → (∀ p ∈ ly, p ∈ f.map (·.1)) →
    Gd hs n (ly.foldl (visP hs) (f, l)).1 ∧ Lt f0 (ly.foldl (visP hs) (f, l)).1 (ly.foldl (visP hs) (f, l)).2 ∧ (∀ s ∈ f.map (·.1), s ∈ (ly.foldl (visP hs) (f, l)).1.map (·.1)) ∧ ∀ p ∈ ly, ∀ h ∈ hs, stp h p ∈ (ly.foldl (visP hs) (f, l)).1.map (·.1)
  | [], f, l, g, t, _ => ⟨g, t, fun _ h => h, fun p hp => nomatch hp⟩
  | p :: ly, f, l, g, t, hp => by
    obtain ⟨g1, t1, s1, c1⟩ := visP_ok hs f l p (fun _ h => h) g t (hp p (by simp))
    have ih := layer_ok ly (visP hs (f, l) p).1 (visP hs (f, l) p).2 g1 t1 fun q hq => s1 q (hp q (by simp [hq]))
    have e : (p :: ly).foldl (visP hs) (f, l) = ly.foldl (visP hs) ((visP hs (f, l) p).1, (visP hs (f, l) p).2) := rfl
    rw [e]
    refine ⟨ih.1, ih.2.1, fun s hs' => ih.2.2.1 s (s1 s hs'), fun q hq h hh => ?_⟩
    rcases List.mem_cons.mp hq with rfl | hq
    · exact ih.2.2.1 _ (c1 h hh)
    · exact ih.2.2.2 q hq h hh
theorem lt_refl (f : Fd) : Lt f f [] := ⟨rfl, (fun _ h => nomatch h), fun _ h => h, fun _ h => .inl h⟩
/-- the ones in the layer are found, those that aren't in it are done with -/
structure Ly (hs : List Hn) (n : Nat) (f : Fd) (ly : List Pl) : Prop where
  gd : Gd hs n f
  sub : ∀ p ∈ ly, p ∈ f.map (·.1)
  done : ∀ p ∈ f.map (·.1), p ∉ ly → ∀ h ∈ hs, stp h p ∈ f.map (·.1)
def meas (n : Nat) (f : Fd) (ly : List Pl) : Nat := if ly = [] then 0 else 2 * fac n - f.length + 1
theorem ly_beg (hs : List Hn) (n : Nat) : Ly hs n [(beg n, none)] [beg n] := ⟨gd_beg hs n, fun p hp => hp, fun p hp hn => absurd hp hn⟩
theorem ly_lay {hs : List Hn} {n : Nat} {f : Fd} {ly : List Pl} (g : Ly hs n f ly) : Ly hs n (lay hs f ly).1 (lay hs f ly).2 := by
  obtain ⟨h1, h2, h3, h4⟩ := layer_ok ly f [] g.gd (lt_refl f) g.sub
  refine ⟨h1, h2.sub, fun p hp hn h hh => ?_⟩
  rcases h2.new p hp with c | c
  · by_cases z : p ∈ ly
    · exact h4 p z h hh
    · exact h3 _ (g.done p c z h hh)
  · exact absurd c hn
theorem meas_lay {hs : List Hn} {n : Nat} {f : Fd} {ly : List Pl} (g : Ly hs n f ly) (hl : ly ≠ []) : meas n (lay hs f ly).1 (lay hs f ly).2 < meas n f ly := by
  obtain ⟨h1, h2, h3, h4⟩ := layer_ok ly f [] g.gd (lt_refl f) g.sub
  have b := h1.len
  have e := h2.len
  unfold meas
  rw [if_neg hl]
  split
  · omega
  · rename_i hz
    have : 0 < (lay hs f ly).2.length := List.length_pos_iff.mpr hz
    show 2 * fac n - (List.foldl (visP hs) (f, []) ly).1.length + 1 < _
    unfold lay at this
    omega
theorem fac_pos : ∀ n, 0 < fac n
  | 0 => Nat.one_pos
  | n + 1 => Nat.mul_pos (Nat.succ_pos n) (fac_pos n)
theorem srun_ok {hs : List Hn} {n : Nat} : ∀ (k : Nat) (f : Fd) (ly : List Pl), Ly hs n f ly → meas n f ly ≤ k → Ly hs n (srun hs k f ly) []
  | 0, f, ly, g, hm => by
    have : ly = [] := by
      unfold meas at hm
      split at hm
      · assumption
      · omega
    subst this
    exact g
  | k + 1, f, ly, g, hm => by
    unfold srun
    split
    · rename_i h; subst h; exact g
    · rename_i h
      exact srun_ok k _ _ (ly_lay g) (by have := meas_lay g h; omega)
theorem srch_ok (hs : List Hn) (n : Nat) : Ly hs n (srch hs n) [] := by
  have := fac_pos n
  exact srun_ok _ _ _ (ly_beg hs n) (by unfold meas; rw [if_neg (by simp)]; simp only [List.length_singleton]; omega)
theorem srch_closed {hs : List Hn} {n : Nat} {p : Pl} {h : Hn} (hp : p ∈ (srch hs n).map (·.1)) (hh : h ∈ hs) : stp h p ∈ (srch hs n).map (·.1) := (srch_ok hs n).done p hp (by simp) h hh
end PP

namespace PP
open PySem PySem.Spec PyProof.Rows L2

/-! ### piles as data, as keys -/
def Pl.d (s : Pl) : D := .tuple [.tuple (s.1.map .int), .bool s.2]
def kP (s : Pl) : NestedKey := .tup [.tup (s.1.map .num), .num (if s.2 = true then 1 else 0)]
theorem nkL_ints : ∀ xs : List Int, nkL (xs.map PyData.int) = some (xs.map NestedKey.num)
  | [] => by simp [nkL]
  | x :: xs => by rw [List.map_cons, nkL, nkL_ints xs]; simp [nkOf]
theorem dep_nums : ∀ xs : List Int, NestedKey.depthAll (xs.map NestedKey.num) = 0
  | [] => by simp [NestedKey.depthAll]
  | x :: xs => by rw [List.map_cons, NestedKey.depthAll, dep_nums xs]; simp [NestedKey.depth]
@[simp] theorem nk_pl (s : Pl) : nkD (Pl.d s) = some (kP s) := by
  unfold Pl.d nkD
  have e : nkL [PyData.tuple (s.1.map .int), PyData.bool s.2] = some [.tup (s.1.map .num), .num (if s.2 = true then 1 else 0)] := by
    simp [nkL, nkOf, nkL_ints]
  simp only [e]
  have e2 : NestedKey.depthAll [.tup (s.1.map .num), .num (if s.2 = true then 1 else 0)] = 1 := by
    simp [NestedKey.depthAll, NestedKey.depth, dep_nums]
  rw [e2]
  rfl
theorem kP_inj {s t : Pl} (h : kP s = kP t) : s = t := by
  obtain ⟨xs, b⟩ := s
  obtain ⟨ys, c⟩ := t
  unfold kP at h
  injection h with h
  injection h with h1 h2
  injection h1 with h1
  injection h2 with h2 _
  injection h2 with h2
  have e : xs = ys := by
    clear h2
    induction xs generalizing ys with
    | nil => cases ys with
      | nil => rfl
      | cons _ _ => simp at h1
    | cons x xs ih => cases ys with
      | nil => simp at h1
      | cons y ys =>
        simp only [List.map_cons] at h1
        injection h1 with h3 h4
        injection h3 with h3
        rw [h3, ih ys h4]
  subst e
  cases b <;> cases c <;> first | rfl | (simp at h2)
section
variable {α : Type} (v : α → D)
def dN (f : List (Pl × α)) : List (D × D) := f.map fun x => (Pl.d x.1, v x.2)
@[simp] theorem dN_len (f : List (Pl × α)) : (dN v f).length = f.length := by unfold dN; simp
theorem dN_get (f : List (Pl × α)) (s : Pl) : getN (dN v f) (kP s) = (look f s).map v := by
  unfold dN
  induction f with
  | nil => rfl
  | cons x f ih =>
    rw [List.map_cons, getN_cons]
    unfold look
    rw [List.find?_cons]
    simp only [nk_pl]
    by_cases e : x.1 = s
    · rw [if_pos (by rw [e]), decide_eq_true e]; rfl
    · rw [if_neg (fun z => e (kP_inj (Option.some.inj z))), decide_eq_false e]
      exact ih
theorem dN_put {f : List (Pl × α)} {s : Pl} (a : α) (h : s ∉ f.map (·.1)) : putN (dN v f) (Pl.d s) (kP s) (v a) = dN v (f ++ [(s, a)]) := by
  unfold putN
  rw [dN_get, look_none.mpr h]
  unfold dN
  simp
end
def vP : Option (Pl × Hn) → D
  | none => .none
  | some (p, h) => .tuple [Pl.d p, h.d]
def vI (k : Nat) : D := .int k
theorem fac_le {n : Nat} (h : n ≤ 7) : 2 * fac n ≤ 10080 := by
  have : ∀ m, m < 8 → 2 * fac m ≤ 10080 := by decide +kernel
  exact this n (by omega)
theorem lk_pl (s : Pl) (h : s.1.length ≤ LIM) : lkOk 3 (Pl.d s) := ⟨by show 2 ≤ 100000; omega, fun x hx => by
  simp only [List.mem_cons, List.not_mem_nil, or_false] at hx
  rcases hx with rfl | rfl
  · exact ⟨by simpa using h, fun x hx => by obtain ⟨i, _, rfl⟩ := List.mem_map.mp hx; trivial⟩
  · trivial⟩
theorem lk_pls (ly : List Pl) (hl : ly.length ≤ LIM) (h : ∀ s ∈ ly, s.1.length ≤ LIM) : lkOk 4 (.list (ly.map Pl.d)) := ⟨by simpa using hl, fun x hx => by
  obtain ⟨s, hs, rfl⟩ := List.mem_map.mp hx
  exact lk_pl s (h s hs)⟩
theorem ne_nil_eq (ly : List Pl) (hl : ly.length ≤ LIM) (h : ∀ s ∈ ly, s.1.length ≤ LIM) : dEq true (.list (ly.map Pl.d)) (.list []) = some (.bool (!decide (ly = []))) := by
  unfold dEq
  rw [lk_okD (lk_pls ly hl h) (by decide), show okD (.list []) = true from rfl]
  cases ly with
  | nil => simp [eqv_nil]
  | cons a l =>
    have e : PyData.eqv (.list (Pl.d a :: l.map Pl.d)) (.list []) = false := by
      unfold PyData.eqv PyData.eqvAll
      rfl
    simp [e]
theorem hI_d (h : Hn) (xs : List Int) : hdl h (xs.map PyData.int) = (hI h xs).map PyData.int := by
  symm
  refine hdl_of (by simp [hI_len]) fun p hp => ?_
  rw [List.length_map] at hp ⊢
  rw [List.getElem?_map, hI_get h xs hp, List.getElem?_map]
theorem rng_sheets (n : Nat) : rng 0 n = (sheets n).map PyData.int := by
  unfold rng sheets
  rw [List.map_map]
  exact List.map_congr_left fun i _ => by simp
theorem over_eq (h : Hn) : dEq false h.d (.str "over") = some (.bool (decide (h = .over))) := by cases h <;> simp [Hn.d]
/-! ### a handling done -/
theorem handledP_eq {n : Nat} (h : Hn) (s : Pl) (t : T) (hs : okP n s) (h0 : 0 < n) (h1 : n ≤ 1000) : f_handled [h.d, Pl.d s] t = some (Pl.d (stp h s), t) := by
  obtain ⟨xs, b⟩ := s
  have hl : xs.length = n := hs.1
  have hi : okI (n : Int) = true := okI_len (by show _ ≤ 100000; omega)
  have l2 : 2 ≤ LIM := by decide
  have hc := comp_map (is := [6]) (sp := spN) (test := cYes) (elt := cBin dIx (cVar 2) (cCall f_fetched (aCons (cVar 0) (aCons (cVar 4) (aCons (cVar 6) aNil)))))
    (fun (i : Nat) => PyData.int (0 + i)) (fun _ => true) (fun (p : Nat) => PyData.int (xs.getD (ft h xs.length p).toNat 0)) [some h.d, some (Pl.d (xs, b)), some (.tuple (xs.map .int)), some (.bool b), some (.int n), none, none] t (List.range xs.length) (fun p hp => by
      have hp : p < xs.length := List.mem_range.mp hp
      have hr := ft_range h (n := xs.length) (p := p) (by omega) (by omega)
      refine ⟨_, rfl, rfl, fun _ => ?_⟩
      have e : atI (xs.map PyData.int) (ft h n p) = some (.int (xs.getD (ft h xs.length p).toNat 0)) := by
        obtain ⟨j, hj⟩ : ∃ j : Nat, ft h n p = j := ⟨(ft h n p).toNat, by rw [← hl]; omega⟩
        have hj2 : j < xs.length := by rw [hl] at hr; omega
        rw [hl, hj, at_nat (by simpa using hj2)]
        simp [List.getD, List.getElem?_eq_getElem hj2]
      simp [fetched_eq h n p t (by omega), e])
  rw [← rng_map, filt_yes, hl] at hc
  have hz : ((List.range n).map fun (p : Nat) => PyData.int (xs.getD (ft h n p).toNat 0)) = (hI h xs).map PyData.int := by
    unfold hI
    rw [List.map_map, hl]
    rfl
  rw [hz] at hc
  have hn : n ≤ LIM := by show _ ≤ 100000; omega
  simp only [Pl.d] at hc
  simp [f_handled, sem_handled, fnSem, Pl.d, spT, spsCons, spsNil, hl, hi, hc, over_eq, stp, l2, hI_len, hn, sheets_len]
  generalize decide (h = Hn.over) = c
  cases b <;> cases c <;> rfl
/-! ### the program's search -/
theorem okP_len {n : Nat} {s : Pl} (h : okP n s) (hn : n ≤ 7) : s.1.length ≤ LIM := by rw [h.1]; show _ ≤ 100000; omega
theorem cond_eq {hs : List Hn} {n : Nat} {f : Fd} {ly : List Pl} (g : Ly hs n f ly) (hn : n ≤ 7) (hl : ly.length ≤ LIM) : dEq true (.list (ly.map Pl.d)) (.list []) = some (.bool (!decide (ly = []))) :=
  ne_nil_eq ly hl fun s hs' => by
    obtain ⟨x, hx, rfl⟩ := List.mem_map.mp (g.sub s hs')
    exact okP_len (g.gd.ok x hx) hn
theorem len_lim {hs : List Hn} {n : Nat} {f : Fd} (g : Gd hs n f) (hn : n ≤ 7) : f.length ≤ 10080 := Nat.le_trans g.len (fac_le hn)
theorem srun_nil (hs : List Hn) (k : Nat) (f : Fd) : srun hs k f [] = f := by cases k <;> rfl
theorem vis_lens {f : Fd} {l : List Pl} {p : Pl} {h : Hn} (hl : l.length ≤ f.length) : (vis (f, l) p h).2.length ≤ (vis (f, l) p h).1.length := by
  unfold vis
  split
  · exact hl
  · show (l ++ [stp h p]).length ≤ (f ++ [(stp h p, some (p, h))]).length
    rw [List.length_append, List.length_append]
    simp only [List.length_singleton]
    omega
section
variable (hs : List Hn) (n : Nat)
def visS (b : D) (ly : List Pl) (p : Pl) (s : (Fd × List Pl) × (Option D × Option D)) : Env := [some (rowD hs), some (.int n), some b, some (.dict (mkP :: dN vP s.1.1)), some (.list (ly.map Pl.d)), some (.list (s.1.2.map Pl.d)), some (Pl.d p), s.2.1, s.2.2]
def wBody : SS := sSeq (sSet 8 (useV [5, 3] (cCall f_handled (aCons (cVar 7) (aCons (cVar 6) aNil)))))
  (sIf (cTest (cNInO true (useV [5, 3] (cVar 8)) 3)) (sSeq (sNPut 3 (useV [5, 3] (cTup (aCons (cVar 6) (aCons (cVar 7) aNil)))) (useV [5, 3] (cVar 8)))
  (sApp 5 (useV [5, 3] (cVar 8)))) sSkip)
theorem wBody_eq {b : D} {ly : List Pl} {p : Pl} (s : (Fd × List Pl) × (Option D × Option D)) (h : Hn) (t : T) (h0 : 0 < n) (hn : n ≤ 7) (g : Gd hs n s.1.1) (hp : p ∈ s.1.1.map (·.1)) (hl : s.1.2.length ≤ s.1.1.length) :
    wBody (setsE (visS hs n b ly p s) [7] [h.d]) t = some (.nx (visS hs n b ly p (vis s.1 p h, (some h.d, some (Pl.d (stp h p))))) t) := by
  obtain ⟨⟨f, l⟩, x7, x8⟩ := s
  obtain ⟨y, hy, rfl⟩ := List.mem_map.mp hp
  have e1 := handledP_eq h y.1 t (g.ok y hy) h0 (by omega)
  have hz : f.length < LIM := by have h9 : f.length ≤ 10080 := len_lim g hn; show _ < 100000; omega
  have hz2 : l.length < LIM := by have hl : l.length ≤ f.length := hl; omega
  have l2 : 2 ≤ LIM := by decide
  unfold visS wBody
  by_cases c : stp h y.1 ∈ f.map (·.1)
  · obtain ⟨a, ha⟩ := look_some c
    have ev : vis (f, l) y.1 h = (f, l) := if_pos c
    simp [e1, dN_get, ha, ev]
  · have ev : vis (f, l) y.1 h = (f ++ [(stp h y.1, some (y.1, h))], l ++ [stp h y.1]) := if_neg c
    have ep := dN_put vP (some (y.1, h)) c
    simp only [vP] at ep
    simp [e1, dN_get, look_none.mpr c, ev, l2, hz, hz2, ep]
theorem visP_eq {b : D} {ly : List Pl} {p : Pl} (h0 : 0 < n) (hn : n ≤ 7) (f0 f : Fd) (l : List Pl) (x7 x8 : Option D) (t : T) (g : Gd hs n f) (lt : Lt f0 f l) (hp : p ∈ f.map (·.1)) :
    ∃ y7 y8, loopS [7] spN wBody (hs.map Hn.d) (visS hs n b ly p ((f, l), (x7, x8))) t = some (.nx (visS hs n b ly p (visP hs (f, l) p, (y7, y8))) t) := by
  have key := loop_fold (is := [7]) (sp := spN) (body := wBody) Hn.d (visS hs n b ly p) (fun (s : (Fd × List Pl) × (Option D × Option D)) h => (vis s.1 p h, (some h.d, some (Pl.d (stp h p)))))
    (fun s => Gd hs n s.1.1 ∧ p ∈ s.1.1.map (·.1) ∧ s.1.2.length ≤ s.1.1.length) (fun h => h ∈ hs)
    (fun s h t hi hj => ⟨_, rfl, wBody_eq hs n s h t h0 hn hi.1 hi.2.1 hi.2.2, gd_vis hi.1 hj hi.2.1, vis_sub hi.2.1, vis_lens hi.2.2⟩) hs ((f, l), (x7, x8)) t ⟨g, hp, by show l.length ≤ f.length; have := lt.len; omega⟩ fun h hh => hh
  have e := fold_fst (fun fl h => vis fl p h) (fun _ h => (some h.d, some (Pl.d (stp h p)))) hs ((f, l), (x7, x8))
  rw [key]
  generalize hs.foldl (fun (s : (Fd × List Pl) × (Option D × Option D)) h => (vis s.1 p h, (some h.d, some (Pl.d (stp h p))))) ((f, l), (x7, x8)) = z at *
  obtain ⟨z1, y7, y8⟩ := z
  exact ⟨y7, y8, by rw [show z1 = visP hs (f, l) p from e]⟩
end
theorem ways_eq (hs : List Hn) (n : Nat) (t : T) (h0 : 0 < n) (hn : n ≤ 7) (hh : hs.length ≤ 1000) : f_ways_from [rowD hs, .int n] t = some (.dict (mkP :: dN vP (srch hs n)), t) := by
  have hi : okI (n : Int) = true := okI_len (by show _ ≤ 100000; omega)
  have hr : okRg 0 (n : Int) = true := okRg_of (by omega) (by omega) (by omega) (by omega)
  have l1 : 1 ≤ LIM := by decide
  have l2 : 2 ≤ LIM := by decide
  have l0 : 0 ≤ LIM := Nat.zero_le _
  have hw : sem_ways_from [some (rowD hs), some (.int n), none, none, none, none, none, none, none] t = some (.rt (.dict (mkP :: dN vP (srch hs n))) t) := by
    have eb : PyData.tuple [.tuple (rng 0 n), .bool false] = Pl.d (beg n) := by rw [rng_sheets]; rfl
    refine seq_eq ?_
    simp [hr, l2, eb, -a_sSeq, -a_sFor]
    refine seq_eq ?_
    simp [l1, -a_sSeq, -a_sFor]
    refine seq_eq (ws_while (fun m e t' => t' = t ∧ ∃ f ly x5 x6 x7 x8, e = [some (rowD hs), some (.int n), some (Pl.d (beg n)), some (.dict (mkP :: dN vP f)), some (.list (ly.map Pl.d)), x5, x6, x7, x8] ∧ Ly hs n f ly ∧ ly.length ≤ f.length ∧ meas n f ly ≤ m ∧ srun hs m f ly = srch hs n) ?_ (2 * fac n) (by have := fac_le hn; omega) ⟨rfl, [(beg n, none)], [beg n], none, none, none, none, rfl, ly_beg hs n, Nat.le_refl _, by
        have := fac_pos n
        unfold meas; rw [if_neg (by simp)]; simp only [List.length_singleton]; omega, rfl⟩)
    rintro m e t' ⟨rfl, f, ly, x5, x6, x7, x8, rfl, g, hl, hm, hs'⟩
    have hf := len_lim g.gd hn
    have hc := cond_eq g hn (by show _ ≤ 100000; omega)
    by_cases c : ly = []
    · subst c
      refine .inl ⟨by simp [l0, eqv_nil, show okD (.list []) = true from rfl, dEq], ?_⟩
      rw [srun_nil] at hs'
      simp [hs']
    · refine .inr ?_
      have mp : 0 < m := by unfold meas at hm; rw [if_neg c] at hm; omega
      refine ⟨m - 1, by omega, ?_, ?_⟩
      · simp [l0, hc, c]
      · refine ws_seq ?_
        simp [l0, -a_sSeq, -a_sFor]
        refine ws_seq (ws_forN (fun k e t'' => t'' = t' ∧ ∃ x6 x7 x8, e = [some (rowD hs), some (.int n), some (Pl.d (beg n)), some (.dict (mkP :: dN vP ((ly.take k).foldl (visP hs) (f, [])).1)), some (.list (ly.map Pl.d)), some (.list (((ly.take k).foldl (visP hs) (f, [])).2.map Pl.d)), x6, x7, x8]) (ds := ly.map Pl.d) (t1 := t') (by simp) ⟨rfl, x6, x7, x8, rfl⟩ ?_ ?_)
        · rintro i d hd e t'' ⟨rfl, x6, x7, x8, rfl⟩
          rw [List.getElem?_map] at hd
          obtain ⟨p, hp, rfl⟩ := Option.map_eq_some_iff.mp hd
          obtain ⟨hi', ep⟩ := List.getElem?_eq_some_iff.mp hp
          have htk : ly.take (i + 1) = ly.take i ++ [p] := by rw [List.take_add_one, hp]; rfl
          obtain ⟨g1, t1, s1, _⟩ := layer_ok (ly.take i) f [] g.gd (lt_refl f) fun q hq => g.sub q (List.mem_of_mem_take hq)
          refine ⟨_, rfl, ?_⟩
          have hv := visP_eq hs n (b := Pl.d (beg n)) (ly := ly) (p := p) h0 hn f _ _ x7 x8 t'' g1 t1 (s1 p (g.sub p (List.mem_of_getElem? hp)))
          obtain ⟨y7, y8, hv⟩ := hv
          rw [htk, List.foldl_append]
          simp only [List.foldl_cons, List.foldl_nil]
          generalize (ly.take i).foldl (visP hs) (f, []) = fl at *
          obtain ⟨f1, l1'⟩ := fl
          unfold visS wBody at hv
          rw [a_sFor]
          simp [rowD, -a_sSeq] at hv ⊢
          rw [hv]
          simp
        · rintro e t'' ⟨rfl, x6, x7, x8, rfl⟩
          rw [List.length_map, List.take_of_length_le (Nat.le_refl _)]
          have g2 := ly_lay g
          have ml := meas_lay g c
          obtain ⟨_, t2, _, _⟩ := layer_ok ly f [] g.gd (lt_refl f) g.sub
          simp
          refine ⟨_, _, ⟨rfl, rfl⟩, g2, ?_, by show meas n (lay hs f ly).1 (lay hs f ly).2 ≤ m - 1; omega, ?_⟩
          · show (lay hs f ly).2.length ≤ (lay hs f ly).1.length
            unfold lay
            rw [t2.len]; omega
          · obtain ⟨m', rfl⟩ : ∃ m', m = m' + 1 := ⟨m - 1, by omega⟩
            unfold srun at hs'
            rw [if_neg c] at hs'
            exact hs'
  unfold f_ways_from fnSem
  show (match sem_ways_from [some (rowD hs), some (.int n), none, none, none, none, none, none, none] t with
    | some (.rt d t') => some (d, t')
    | some (.nx _ t') => some (.none, t')
    | none => none) = _
  rw [hw]
end PP

namespace PP
open PySem PySem.Spec PyProof.Rows L2

/-! ### the law's own search -/
section
variable (hs : List Hn) (n : Nat)
def visR (ly : List Pl) (p : Pl) (s : (Fd × List Pl) × (Option D × Option D)) : Env := [some (rowD hs), some (.int n), some (.dict (mkP :: dN vI (lensF s.1.1))), some (.list (ly.map Pl.d)), some (.list (s.1.2.map Pl.d)), some (.tuple (p.1.map .int)), some (.bool p.2), s.2.1, s.2.2]
def rBody : SS := (sSeq (sSet 8 (useV [4, 2] (cTup (aCons (cBI dTup (aCons (cCall f_law_handled (aCons (cVar 7) (aCons (cBI dList (aCons (cVar 5) aNil)) aNil))) aNil)) (aCons (cBin (dEq true) (cVar 6) (cBin (dEq false) (cVar 7) (cC (.str "over")))) aNil)))))
  (sIf (cTest (cNInO true (useV [4, 2] (cVar 8)) 2)) (sSeq (sNPut 2 (useB (cBin dAdd (cBin dNGet (cVar 2) (cTup (aCons (cVar 5) (aCons (cVar 6) aNil)))) (cC (.int 1)))) (useV [4, 2] (cVar 8)))
  (sApp 4 (useV [4, 2] (cVar 8)))) sSkip))
theorem dNGet_mk {α : Type} (v : α → D) (f : List (Pl × α)) (s : Pl) : dNGet (.dict (mkP :: dN v f)) (Pl.d s) = (look f s).map v := by
  unfold dNGet
  simp only [unN_mk, nk_pl]
  exact dN_get v f s
theorem rBody_eq {ly : List Pl} {p : Pl} (s : (Fd × List Pl) × (Option D × Option D)) (h : Hn) (t : T) (h0 : 0 < n) (hn : n ≤ 7) (g : Gd hs n s.1.1) (hp : p ∈ s.1.1.map (·.1)) (hl : s.1.2.length ≤ s.1.1.length) :
    rBody (setsE (visR hs n ly p s) [7] [h.d]) t = some (.nx (visR hs n ly p (vis s.1 p h, (some h.d, some (Pl.d (stp h p))))) t) := by
  obtain ⟨⟨f, l⟩, x7, x8⟩ := s
  obtain ⟨y, hy, rfl⟩ := List.mem_map.mp hp
  have hok : okP n y.1 := g.ok y hy
  have hyl : y.1.1.length = n := hok.1
  have e1 := handled_eq h (y.1.1.map PyData.int) t (by rw [List.length_map]; omega) (by rw [List.length_map]; omega)
  rw [hI_d] at e1
  have hz : f.length < LIM := by have h9 : f.length ≤ 10080 := len_lim g hn; show _ < 100000; omega
  have hz2 : l.length < LIM := by have hl : l.length ≤ f.length := hl; omega
  have hz3 : n ≤ LIM := by show _ ≤ 100000; omega
  have l2 : 2 ≤ LIM := by decide
  have en : PyData.tuple [.tuple ((hI h y.1.1).map .int), .bool (!decide (y.1.2 = decide (h = .over)))] = Pl.d (stp h y.1) := by
    unfold Pl.d stp
    generalize decide (h = Hn.over) = c
    generalize y.1.2 = b
    cases b <;> cases c <;> rfl
  have ey : PyData.tuple [.tuple (y.1.1.map .int), .bool y.1.2] = Pl.d y.1 := rfl
  obtain ⟨k, hk⟩ := look_some (f := lensF f) (s := y.1) (by rw [lensF_keys]; exact hp)
  unfold visR rBody
  by_cases c : stp h y.1 ∈ f.map (·.1)
  · obtain ⟨a, ha⟩ := look_some (f := lensF f) (s := stp h y.1) (by rw [lensF_keys]; exact c)
    have ev : vis (f, l) y.1 h = (f, l) := if_pos c
    simp [e1, over_eq, l2, en, dN_get, ha, ev]
  · have ev : vis (f, l) y.1 h = (f ++ [(stp h y.1, some (y.1, h))], l ++ [stp h y.1]) := if_neg c
    have c2 : stp h y.1 ∉ (lensF f).map (·.1) := by rw [lensF_keys]; exact c
    have ep := dN_put vI (k + 1) c2
    have el : lensF (f ++ [(stp h y.1, some (y.1, h))]) = lensF f ++ [(stp h y.1, k + 1)] := by
      rw [lensF_app]
      unfold lenF
      simp [hk]
    simp only [vI] at ep
    have eg := dNGet_mk vI (lensF f) y.1
    rw [hk] at eg
    simp only [Option.map_some, vI] at eg
    simp [e1, over_eq, l2, en, ey, dN_get, look_none.mpr c2, ev, hz, hz2, lensF_len, eg, el, atomic]
    rw [← ep]
    rfl
theorem visR_eq {ly : List Pl} {p : Pl} (h0 : 0 < n) (hn : n ≤ 7) (f0 f : Fd) (l : List Pl) (x7 x8 : Option D) (t : T) (g : Gd hs n f) (lt : Lt f0 f l) (hp : p ∈ f.map (·.1)) :
    ∃ y7 y8, loopS [7] spN rBody (hs.map Hn.d) (visR hs n ly p ((f, l), (x7, x8))) t = some (.nx (visR hs n ly p (visP hs (f, l) p, (y7, y8))) t) := by
  have key := loop_fold (is := [7]) (sp := spN) (body := rBody) Hn.d (visR hs n ly p) (fun (s : (Fd × List Pl) × (Option D × Option D)) h => (vis s.1 p h, (some h.d, some (Pl.d (stp h p)))))
    (fun s => Gd hs n s.1.1 ∧ p ∈ s.1.1.map (·.1) ∧ s.1.2.length ≤ s.1.1.length) (fun h => h ∈ hs)
    (fun s h t hi hj => ⟨_, rfl, rBody_eq hs n s h t h0 hn hi.1 hi.2.1 hi.2.2, gd_vis hi.1 hj hi.2.1, vis_sub hi.2.1, vis_lens hi.2.2⟩) hs ((f, l), (x7, x8)) t ⟨g, hp, by show l.length ≤ f.length; have := lt.len; omega⟩ fun h hh => hh
  have e := fold_fst (fun fl h => vis fl p h) (fun _ h => (some h.d, some (Pl.d (stp h p)))) hs ((f, l), (x7, x8))
  rw [key]
  generalize hs.foldl (fun (s : (Fd × List Pl) × (Option D × Option D)) h => (vis s.1 p h, (some h.d, some (Pl.d (stp h p))))) ((f, l), (x7, x8)) = z at *
  obtain ⟨z1, y7, y8⟩ := z
  exact ⟨y7, y8, by rw [show z1 = visP hs (f, l) p from e]⟩
end
theorem reached_eq (hs : List Hn) (n : Nat) (t : T) (h0 : 0 < n) (hn : n ≤ 7) (hh : hs.length ≤ 1000) : f_law_reached [rowD hs, .int n] t = some (.dict (mkP :: dN vI (lensF (srch hs n))), t) := by
  have hi : okI (n : Int) = true := okI_len (by show _ ≤ 100000; omega)
  have hr : okRg 0 (n : Int) = true := okRg_of (by omega) (by omega) (by omega) (by omega)
  have l1 : 1 ≤ LIM := by decide
  have l2 : 2 ≤ LIM := by decide
  have l0 : 0 ≤ LIM := Nat.zero_le _
  have hw : sem_law_reached [some (rowD hs), some (.int n), none, none, none, none, none, none, none] t = some (.rt (.dict (mkP :: dN vI (lensF (srch hs n)))) t) := by
    have eb : PyData.tuple [.tuple (rng 0 n), .bool false] = Pl.d (beg n) := by rw [rng_sheets]; rfl
    refine seq_eq ?_
    simp [hr, l1, l2, eb, -a_sSeq, -a_sFor]
    refine seq_eq (ws_while (fun m e t' => t' = t ∧ ∃ f ly x4 x5 x6 x7 x8, e = [some (rowD hs), some (.int n), some (.dict (mkP :: dN vI (lensF f))), some (.list (ly.map Pl.d)), x4, x5, x6, x7, x8] ∧ Ly hs n f ly ∧ ly.length ≤ f.length ∧ meas n f ly ≤ m ∧ srun hs m f ly = srch hs n) ?_ (2 * fac n) (by have := fac_le hn; omega) ⟨rfl, [(beg n, none)], [beg n], none, none, none, none, none, rfl, ly_beg hs n, Nat.le_refl _, by
        have := fac_pos n
        unfold meas; rw [if_neg (by simp)]; simp only [List.length_singleton]; omega, rfl⟩)
    rintro m e t' ⟨rfl, f, ly, x4, x5, x6, x7, x8, rfl, g, hl, hm, hs'⟩
    have hf := len_lim g.gd hn
    have hc := cond_eq g hn (by show _ ≤ 100000; omega)
    by_cases c : ly = []
    · subst c
      refine .inl ⟨by simp [l0, eqv_nil, show okD (.list []) = true from rfl, dEq], ?_⟩
      rw [srun_nil] at hs'
      simp [hs']
    · refine .inr ?_
      have mp : 0 < m := by unfold meas at hm; rw [if_neg c] at hm; omega
      refine ⟨m - 1, by omega, ?_, ?_⟩
      · simp [l0, hc, c]
      · refine ws_seq ?_
        simp [l0, -a_sSeq, -a_sFor]
        refine ws_seq (ws_forN (fun k e t'' => t'' = t' ∧ ∃ x5 x6 x7 x8, e = [some (rowD hs), some (.int n), some (.dict (mkP :: dN vI (lensF ((ly.take k).foldl (visP hs) (f, [])).1))), some (.list (ly.map Pl.d)), some (.list (((ly.take k).foldl (visP hs) (f, [])).2.map Pl.d)), x5, x6, x7, x8]) (ds := ly.map Pl.d) (t1 := t') (by simp) ⟨rfl, x5, x6, x7, x8, rfl⟩ ?_ ?_)
        · rintro i d hd e t'' ⟨rfl, x5, x6, x7, x8, rfl⟩
          rw [List.getElem?_map] at hd
          obtain ⟨p, hp, rfl⟩ := Option.map_eq_some_iff.mp hd
          have htk : ly.take (i + 1) = ly.take i ++ [p] := by rw [List.take_add_one, hp]; rfl
          obtain ⟨g1, t1, s1, _⟩ := layer_ok (ly.take i) f [] g.gd (lt_refl f) fun q hq => g.sub q (List.mem_of_mem_take hq)
          refine ⟨_, rfl, ?_⟩
          have hv := visR_eq hs n (ly := ly) (p := p) h0 hn f _ _ x7 x8 t'' g1 t1 (s1 p (g.sub p (List.mem_of_getElem? hp)))
          obtain ⟨y7, y8, hv⟩ := hv
          rw [htk, List.foldl_append]
          simp only [List.foldl_cons, List.foldl_nil]
          generalize (ly.take i).foldl (visP hs) (f, []) = fl at *
          obtain ⟨f1, l1'⟩ := fl
          unfold visR rBody at hv
          rw [a_sFor]
          simp [rowD, -a_sSeq] at hv ⊢
          rw [hv]
          simp
        · rintro e t'' ⟨rfl, x5, x6, x7, x8, rfl⟩
          rw [List.length_map, List.take_of_length_le (Nat.le_refl _)]
          have g2 := ly_lay g
          have ml := meas_lay g c
          obtain ⟨_, t2, _, _⟩ := layer_ok ly f [] g.gd (lt_refl f) g.sub
          simp
          refine ⟨(lay hs f ly).1, (lay hs f ly).2, ⟨rfl, rfl⟩, g2, ?_, by omega, ?_⟩
          · unfold lay
            rw [t2.len]; omega
          · obtain ⟨m', rfl⟩ : ∃ m', m = m' + 1 := ⟨m - 1, by omega⟩
            unfold srun at hs'
            rw [if_neg c] at hs'
            exact hs'
  unfold f_law_reached fnSem
  show (match sem_law_reached [some (rowD hs), some (.int n), none, none, none, none, none, none, none] t with
    | some (.rt d t') => some (d, t')
    | some (.nx _ t') => some (.none, t')
    | none => none) = _
  rw [hw]
end PP

namespace PP
open PySem PySem.Spec PyProof.Rows L2

/-! ### the greatest number, the least pile -/
theorem alike_int {i j : Int} : PySem.W.alike (.int i) (.int j) = true := by unfold PySem.W.alike; rfl
theorem alike_bool {i j : Bool} : PySem.W.alike (.bool i) (.bool j) = true := by unfold PySem.W.alike; rfl
theorem alikeAll_ints : ∀ xs ys : List Int, PySem.W.alikeAll (xs.map PyData.int) (ys.map PyData.int) = true
  | [], ys => by unfold PySem.W.alikeAll; cases ys <;> rfl
  | x :: xs, [] => by unfold PySem.W.alikeAll; rfl
  | x :: xs, y :: ys => by rw [List.map_cons, List.map_cons, PySem.W.alikeAll, alike_int, alikeAll_ints xs ys]; rfl
theorem alike_pl (s u : Pl) : PySem.W.alike (Pl.d s) (Pl.d u) = true := by
  unfold Pl.d
  rw [PySem.W.alike, PySem.W.alikeAll, PySem.W.alike, alikeAll_ints, PySem.W.alikeAll, alike_bool, PySem.W.alikeAll]
  rfl
theorem allAlike_of {xs : List D} (h1 : ∀ x ∈ xs, isN x = false) (h2 : ∀ x ∈ xs, ∀ y ∈ xs, PySem.W.alike x y = true) : allAlike xs = true := by
  unfold allAlike
  rw [List.all_eq_true]
  intro x hx
  rw [h1 x hx, List.all_eq_true.mpr (fun y hy => h2 x hx y hy)]
  rfl
def mxI : List Int → Int
  | [] => 0
  | a :: r => r.foldl max a
theorem max_ints {l : List Int} (h : l ≠ []) : dMax1 [.list (l.map PyData.int)] = some (.int (mxI l)) := by
  cases l with
  | nil => exact absurd rfl h
  | cons a r =>
    have c1 : PyData.plainAll ((a :: r).map PyData.int) = true := pl_all fun x hx => by obtain ⟨i, _, rfl⟩ := List.mem_map.mp hx; exact pl_int
    have c2 : allAlike ((a :: r).map PyData.int) = true := allAlike_of (fun x hx => by obtain ⟨i, _, rfl⟩ := List.mem_map.mp hx; rfl) fun x hx y hy => by
      obtain ⟨i, _, rfl⟩ := List.mem_map.mp hx
      obtain ⟨j, _, rfl⟩ := List.mem_map.mp hy
      exact alike_int
    have c3 : Nat.ble (PyData.depthAll ((a :: r).map PyData.int)) 32 = true := Nat.ble_eq_true_of_le (dep_all fun x hx => by
      obtain ⟨i, _, rfl⟩ := List.mem_map.mp hx
      rw [PyData.depth]; omega)
    rw [List.map_cons] at c1 c2 c3 ⊢
    unfold dMax1
    simp only [c1, c2, c3, and_self, if_true]
    rw [PySem.W.maxD_ints]
    rfl
theorem mxI_le : ∀ (l : List Int) (b : Int), (∀ x ∈ l, x ≤ b) → l ≠ [] → mxI l ≤ b := by
  intro l b h hn
  cases l with
  | nil => exact absurd rfl hn
  | cons a r =>
    have key : ∀ (r : List Int) (a : Int), a ≤ b → (∀ x ∈ r, x ≤ b) → r.foldl max a ≤ b := by
      intro r
      induction r with
      | nil => intro a ha _; exact ha
      | cons c r ih => intro a ha hr; exact ih _ (by have := hr c (by simp); omega) fun x hx => hr x (by simp [hx])
    exact key r a (h a (by simp)) fun x hx => h x (by simp [hx])
theorem mxI_mem {l : List Int} (hn : l ≠ []) : mxI l ∈ l := by
  cases l with
  | nil => exact absurd rfl hn
  | cons a r =>
    have key : ∀ (r : List Int) (a : Int), r.foldl max a ∈ a :: r := by
      intro r
      induction r with
      | nil => intro a; simp
      | cons c r ih =>
        intro a
        have := ih (max a c)
        rw [List.foldl_cons]
        rcases List.mem_cons.mp this with z | z
        · rw [z]
          rcases Int.le_total a c with q | q
          · rw [show max a c = c by omega]; simp
          · rw [show max a c = a by omega]; simp
        · simp [z]
    exact key r a
def mnP : List Pl → D
  | [] => .none
  | a :: r => PySem.W.minD (Pl.d a) (r.map Pl.d)
theorem mnP_mem {l : List Pl} (hn : l ≠ []) : ∃ s ∈ l, mnP l = Pl.d s := by
  cases l with
  | nil => exact absurd rfl hn
  | cons a r =>
    have key : ∀ (r : List Pl) (a : Pl), ∃ s ∈ a :: r, PySem.W.minD (Pl.d a) (r.map Pl.d) = Pl.d s := by
      intro r
      induction r with
      | nil => intro a; exact ⟨a, by simp, rfl⟩
      | cons c r ih =>
        intro a
        unfold PySem.W.minD at ih ⊢
        rw [List.map_cons, List.foldl_cons]
        split
        · obtain ⟨s, h1, h2⟩ := ih c
          exact ⟨s, List.mem_cons_of_mem _ h1, h2⟩
        · obtain ⟨s, h1, h2⟩ := ih a
          refine ⟨s, ?_, h2⟩
          rcases List.mem_cons.mp h1 with z | z
          · rw [z]; simp
          · simp [z]
    exact key r a
theorem min_pls {n : Nat} {l : List Pl} (h : l ≠ []) (hl : ∀ s ∈ l, s.1.length ≤ LIM) : dMin1 [.list (l.map Pl.d)] = some (mnP l) := by
  cases l with
  | nil => exact absurd rfl h
  | cons a r =>
    have c1 : PyData.plainAll ((a :: r).map Pl.d) = true := pl_all fun x hx => by obtain ⟨i, hi, rfl⟩ := List.mem_map.mp hx; exact (flat_ok 3 _ (lk_pl i (hl i hi))).1
    have c2 : allAlike ((a :: r).map Pl.d) = true := allAlike_of (fun x hx => by obtain ⟨i, _, rfl⟩ := List.mem_map.mp hx; rfl) fun x hx y hy => by
      obtain ⟨i, _, rfl⟩ := List.mem_map.mp hx
      obtain ⟨j, _, rfl⟩ := List.mem_map.mp hy
      exact alike_pl i j
    have c3 : Nat.ble (PyData.depthAll ((a :: r).map Pl.d)) 32 = true := Nat.ble_eq_true_of_le (dep_all fun x hx => by
      obtain ⟨i, hi, rfl⟩ := List.mem_map.mp hx
      have := (flat_ok 3 _ (lk_pl i (hl i hi))).2.1
      omega)
    rw [List.map_cons] at c1 c2 c3 ⊢
    unfold dMin1
    simp only [c1, c2, c3, and_self, if_true]
    rfl
/-! ### how many, the farthest -/
abbrev Ln := List (Pl × Nat)
def valsL (L : Ln) : List Int := L.map fun x => (x.2 : Int)
def farM (L : Ln) : Int := mxI (valsL L)
def farL (L : Ln) : List Pl := (L.filter fun x => decide ((x.2 : Int) = farM L)).map (·.1)
def farD (L : Ln) : D := .tuple [.int (farM L), mnP (farL L)]
theorem farL_ne {L : Ln} (h : L ≠ []) : farL L ≠ [] := by
  have hm := mxI_mem (l := valsL L) (by unfold valsL; simpa using h)
  obtain ⟨x, hx, e⟩ := List.mem_map.mp hm
  have : x.1 ∈ farL L := List.mem_map.mpr ⟨x, List.mem_filter.mpr ⟨hx, decide_eq_true e⟩, rfl⟩
  intro z
  rw [z] at this
  cases this
theorem Gd.ne {hs : List Hn} {n : Nat} {f : Fd} (g : Gd hs n f) : f ≠ [] := by
  obtain ⟨r, e⟩ := g.hd
  rw [e]
  exact List.cons_ne_nil _ _
theorem lens_ne {hs : List Hn} {n : Nat} {f : Fd} (g : Gd hs n f) : lensF f ≠ [] := by
  have := lensF_len f
  intro z
  rw [z] at this
  exact g.ne (List.length_eq_zero_iff.mp this.symm)
theorem lens_ok {hs : List Hn} {n : Nat} {f : Fd} (g : Gd hs n f) {x : Pl × Nat} (hx : x ∈ lensF f) : okP n x.1 := by
  have : x.1 ∈ f.map (·.1) := by rw [← lensF_keys]; exact List.mem_map_of_mem hx
  obtain ⟨y, hy, e⟩ := List.mem_map.mp this
  rw [← e]
  exact g.ok y hy
end PP

namespace PP
open PySem PySem.Spec PyProof.Rows L2

/-! ### some of the handlings drawn -/
theorem comp_draw (m : Int) (h0 : 0 < m) (h1 : m < 2 ^ 100) (k : Nat) (c : SE) (e : Env) (hc : ∀ (h : Hn) (t : T), c (setsE e [k] [h.d]) t = some (tapeD, t)) (hk : ∀ h : Hn, (setsE e [k] [h.d])[k]? = some (some h.d)) : ∀ (hs : List Hn) (t : T),
    ∃ (gs : List Hn) (t' : T), compL [k] spN (cTest (cBin (dEq false) (cCall f_law_draw (aCons c (aCons (cC (.int m)) aNil))) (cC (.int 0)))) (cVar k) (hs.map Hn.d) e t = some (gs.map Hn.d, t') ∧ (∀ g ∈ gs, g ∈ hs) ∧ gs.length ≤ hs.length
  | [], t => ⟨[], t, rfl, (fun g hg => nomatch hg), Nat.le_refl _⟩
  | h :: hs, t => by
    have e1 := draw_eq (n := m) (t := t) h0 h1
    obtain ⟨gs, t', h2, h3, h4⟩ := comp_draw m h0 h1 k c e hc hk hs (drt m t)
    have hk' := hk h
    have hc' := hc h t
    rw [a_sets1, a_sets0] at hk' hc'
    by_cases z : drv m t = 0
    · refine ⟨h :: gs, t', ?_, fun g hg => ?_, by simpa using h4⟩
      · rw [List.map_cons]
        unfold compL
        simp [hc', e1, z, hk', h2]
      · rcases List.mem_cons.mp hg with rfl | hg
        · simp
        · simp [h3 g hg]
    · refine ⟨gs, t', ?_, fun g hg => by simp [h3 g hg], by simp; omega⟩
      rw [List.map_cons]
      unfold compL
      simp [hc', e1, z, hk', h2]
end PP

namespace PP
open PySem PySem.Spec PyProof.Rows L2

/-! ### ways -/
/-- the way to a pile, told by the piles ahead -/
inductive Pth (f : Fd) : Pl → List Hn → Prop
  | nil {s : Pl} : look f s = some none → Pth f s []
  | snoc {s p : Pl} {h : Hn} {r : List Hn} : look f s = some (some (p, h)) → Pth f p r → Pth f s (r ++ [h])
theorem look_ix {f : Fd} {s : Pl} {a : Option (Pl × Hn)} (h : look f s = some a) : ∃ i : Nat, f[i]? = some (s, a) := by
  unfold look at h
  obtain ⟨y, hy, rfl⟩ := Option.map_eq_some_iff.mp h
  have hm := List.mem_of_find?_eq_some hy
  have hp := List.find?_some hy
  obtain ⟨i, hi⟩ := List.mem_iff_getElem?.mp hm
  exact ⟨i, by rw [hi, ← of_decide_eq_true hp]⟩
theorem pth_ex {hs : List Hn} {n : Nat} {f : Fd} (g : Gd hs n f) : ∀ (i : Nat) (s : Pl) (a : Option (Pl × Hn)), f[i]? = some (s, a) → ∃ r, Pth f s r ∧ r.length ≤ i := by
  intro i
  induction i using Nat.strongRecOn with
  | ind i ih =>
    intro s a e
    have hl := look_at g.nd (List.mem_of_getElem? e)
    rcases g.par i s a e with ⟨rfl, rfl⟩ | ⟨p, h, j, b, rfl, _, _, hj, hp⟩
    · exact ⟨[], .nil hl, Nat.le_refl _⟩
    · obtain ⟨r, h1, h2⟩ := ih j hj p b hp
      exact ⟨r ++ [h], .snoc hl h1, by rw [List.length_append]; simp only [List.length_singleton]; omega⟩
def runP (n : Nat) (r : List Hn) : Pl := r.foldl (fun s h => stp h s) (beg n)
theorem pth_run {hs : List Hn} {n : Nat} {f : Fd} (g : Gd hs n f) {s : Pl} {r : List Hn} (h : Pth f s r) : runP n r = s ∧ ∀ x ∈ r, x ∈ hs := by
  induction h with
  | @nil s h =>
    obtain ⟨i, hi⟩ := look_ix h
    rcases g.par i s none hi with ⟨_, rfl⟩ | ⟨p, h, j, b, z, _⟩
    · obtain ⟨r, e⟩ := g.hd
      rw [e] at hi
      simp at hi
      exact ⟨hi, fun x hx => nomatch hx⟩
    · cases z
  | @snoc s p h r e _ ih =>
    obtain ⟨i, hi⟩ := look_ix e
    rcases g.par i s _ hi with ⟨z, _⟩ | ⟨p', h', j, b, z, hh, rfl, _⟩
    · cases z
    · cases z
      refine ⟨?_, fun x hx => ?_⟩
      · unfold runP
        rw [List.foldl_append]
        show stp h (runP n r) = _
        rw [ih.1]
      · rcases List.mem_append.mp hx with z | z
        · exact ih.2 x z
        · rw [List.mem_singleton] at z
          rw [z]; exact hh
theorem lensF_pre (a b : Fd) : ∃ g, lensF (a ++ b) = lensF a ++ g := by
  induction b generalizing a with
  | nil => exact ⟨[], by simp⟩
  | cons x b ih =>
    obtain ⟨g, hg⟩ := ih (a ++ [x])
    rw [List.append_assoc] at hg
    rw [show a ++ x :: b = a ++ ([x] ++ b) from rfl, hg, lensF_app]
    unfold lenF
    exact ⟨_, List.append_assoc _ _ _⟩
theorem pth_len {hs : List Hn} {n : Nat} {f : Fd} (g : Gd hs n f) {s : Pl} {r : List Hn} (h : Pth f s r) : look (lensF f) s = some r.length := by
  have at_i : ∀ (i : Nat) (s : Pl) (a : Option (Pl × Hn)), f[i]? = some (s, a) → look (lensF f) s = some (match a with
      | none => 0
      | some (p, _) => (look (lensF (f.take i)) p).getD 0 + 1) := fun i s a hi => by
    have hlt : i < f.length := (List.getElem?_eq_some_iff.mp hi).1
    have htk : f.take (i + 1) = f.take i ++ [(s, a)] := by rw [List.take_add_one, hi]; rfl
    obtain ⟨q, hq⟩ := lensF_pre (f.take (i + 1)) (f.drop (i + 1))
    rw [List.take_append_drop, htk, lensF_app] at hq
    have nd : ((lensF f).map (·.1)).Nodup := by rw [lensF_keys]; exact g.nd
    unfold lenF at hq
    refine look_at nd (x := (s, _)) ?_
    rw [hq]
    exact List.mem_append.mpr (.inl (List.mem_append.mpr (.inr (List.mem_singleton.mpr rfl))))
  induction h with
  | @nil s h =>
    obtain ⟨i, hi⟩ := look_ix h
    exact at_i i s none hi
  | @snoc s p h r e _ ih =>
    obtain ⟨i, hi⟩ := look_ix e
    rw [at_i i s _ hi]
    rcases g.par i s _ hi with ⟨z, _⟩ | ⟨p', h', j, b, z, _, _, hj, hp⟩
    · cases z
    · cases z
      have hm : p ∈ (lensF (f.take i)).map (·.1) := by
        rw [lensF_keys]
        exact List.mem_map.mpr ⟨(p, b), List.mem_of_getElem? (by rw [List.getElem?_take_of_lt hj]; exact hp), rfl⟩
      obtain ⟨q, hq⟩ := lensF_pre (f.take i) (f.drop i)
      rw [List.take_append_drop] at hq
      rw [hq, look_app hm] at ih
      show some ((look (lensF (f.take i)) p).getD 0 + 1) = some (r ++ [h]).length
      rw [ih]
      simp
theorem runP_fst (n : Nat) (r : List Hn) : laidD r n = (runP n r).1.map PyData.int := by
  have key : ∀ m (r : List Hn), r.length = m → laidD r n = (runP n r).1.map PyData.int := by
    intro m
    induction m with
    | zero =>
      intro r hr
      have := List.length_eq_zero_iff.mp hr
      subst this
      rw [laidD_nil, rng_sheets]
      rfl
    | succ m ih =>
      intro r hr
      have hne : r ≠ [] := fun z => by rw [z] at hr; cases hr
      have e : r = r.dropLast ++ [r.getLast hne] := (List.dropLast_concat_getLast hne).symm
      have hd : r.dropLast.length = m := by rw [List.length_dropLast]; omega
      generalize r.dropLast = a at *
      generalize r.getLast hne = h at *
      subst e
      rw [laidD_snoc, ih a hd, hI_d]
      unfold runP
      rw [List.foldl_append]
      rfl
  exact key _ r rfl
theorem runP_snd (n : Nat) (r : List Hn) : (runP n r).2 = decide (overs r % 2 = 1) := by
  have key : ∀ (r : List Hn) (s : Pl), (r.foldl (fun s h => stp h s) s).2 = (s.2 != decide (overs r % 2 = 1)) := by
    intro r
    induction r with
    | nil => intro s; show s.2 = (s.2 != decide (overs [] % 2 = 1)); cases s.2 <;> rfl
    | cons h r ih =>
      intro s
      rw [List.foldl_cons, ih]
      show ((s.2 != decide (h = .over)) != decide (overs r % 2 = 1)) = _
      have e : overs (h :: r) = overs r + (if h = .over then 1 else 0) := by
        unfold overs
        rw [List.countP_cons]
        cases h <;> rfl
      rw [e]
      rcases Nat.mod_two_eq_zero_or_one (overs r) with z | z
      · by_cases c : h = .over
        · rw [if_pos c, decide_eq_true c, z, show (overs r + 1) % 2 = 1 by omega]; cases s.2 <;> rfl
        · rw [if_neg c, decide_eq_false c, z, show (overs r + 0) % 2 = 0 by omega]; cases s.2 <;> rfl
      · by_cases c : h = .over
        · rw [if_pos c, decide_eq_true c, z, show (overs r + 1) % 2 = 0 by omega]; cases s.2 <;> rfl
        · rw [if_neg c, decide_eq_false c, z, show (overs r + 0) % 2 = 1 by omega]; cases s.2 <;> rfl
  have := key r (beg n)
  unfold runP
  rw [this]
  show (false != _) = _
  simp
/-! ### the program's ways -/
theorem dNGet_mk' (f : Fd) (s : Pl) : dNGet (.dict (mkP :: dN vP f)) (Pl.d s) = (look f s).map vP := by
  unfold dNGet
  simp only [unN_mk, nk_pl]
  exact dN_get vP f s
theorem dNIn_mk (neg : Bool) (f : Fd) (s : Pl) : dNIn neg (Pl.d s) (.dict (mkP :: dN vP f)) = some (.bool (if neg then !(look f s).isSome else (look f s).isSome)) := by
  unfold dNIn
  simp only [unN_mk, nk_pl]
  rw [dN_get, Option.isSome_map]
theorem dNGet1_mk (L : List (Pl × Nat)) (s : Pl) : dNGet1 (.dict (mkP :: dN vI L)) (Pl.d s) = some (((look L s).map vI).getD .none) := by
  unfold dNGet1
  simp only [unN_mk, nk_pl]
  rw [dN_get]
theorem atPl0 (s : Pl) : dIx (Pl.d s) (.int 0) = some (.tuple (s.1.map .int)) := rfl
theorem atPl1 (s : Pl) : dIx (Pl.d s) (.int 1) = some (.bool s.2) := rfl
theorem way_none (hs : List Hn) (n : Nat) (s : Pl) (t : T) (h0 : 0 < n) (hn : n ≤ 7) (hh : hs.length ≤ 1000) (hs' : okP n s) (hk : s ∉ (srch hs n).map (·.1)) : f_way_to [rowD hs, Pl.d s] t = some (.none, t) := by
  have w := fun t => ways_eq hs n t h0 hn hh
  have e := dNIn_mk true (srch hs n) s
  rw [look_none.mpr hk] at e
  simp [f_way_to, sem_way_to, fnSem, atPl0, hs'.1, w, e]
theorem way_some (hs : List Hn) (n : Nat) (s : Pl) (t : T) (W : List Hn) (h0 : 0 < n) (hn : n ≤ 7) (hh : hs.length ≤ 1000) (hs' : okP n s) (hp : Pth (srch hs n) s W) (hW : W.length ≤ 10080) : f_way_to [rowD hs, Pl.d s] t = some (rowD W, t) := by
  have l0 : 0 ≤ LIM := Nat.zero_le _
  have w := fun t => ways_eq hs n t h0 hn hh
  have hk : (look (srch hs n) s).isSome = true := by
    cases hp with
    | nil h => rw [h]; rfl
    | snoc h _ => rw [h]; rfl
  have e := dNIn_mk true (srch hs n) s
  rw [hk] at e
  have hw : sem_way_to [some (rowD hs), some (Pl.d s), none, none, none, none] t = some (.rt (rowD W) t) := by
    refine seq_eq ?_
    simp [atPl0, hs'.1, w, -a_sSeq, -a_sFor]
    refine seq_eq ?_
    simp [e, -a_sSeq, -a_sFor]
    refine seq_eq ?_
    simp [l0, -a_sSeq, -a_sFor]
    generalize srch hs n = f at *
    refine seq_eq (ws_while (fun m e t' => t' = t ∧ ∃ here r way x5, e = [some (rowD hs), some (Pl.d s), some (.dict (mkP :: dN vP f)), some (rowD way), some (Pl.d here), x5] ∧ Pth f here r ∧ r ++ way = W ∧ r.length = m) ?_ W.length (by omega) ⟨rfl, s, W, [], none, rfl, hp, by simp, rfl⟩)
    rintro m e t' ⟨rfl, here, r, way, x5, rfl, hp, hW', rfl⟩
    have eg := dNGet_mk' f here
    cases hp with
    | nil h =>
      rw [h] at eg
      refine .inl ⟨?_, ?_⟩
      · simp [eg, vP, isN]
      · have : way = W := hW'
        simp [this]
    | @snoc _ p h r h1 h2 =>
      rw [h1] at eg
      refine .inr ⟨r.length, by simp, by simp [eg, vP, isN], ?_⟩
      have hl : way.length + 1 ≤ LIM := by
        have := congrArg List.length hW'
        simp at this
        show _ ≤ 100000
        omega
      refine ws_seq ?_
      have s1 : sBind [4, 5] (spT (spsCons spN (spsCons spN spsNil))) (cBin dNGet (cVar 2) (cVar 4)) [some (rowD hs), some (Pl.d s), some (.dict (mkP :: dN vP f)), some (rowD way), some (Pl.d here), x5] t' =
          some (.nx [some (rowD hs), some (Pl.d s), some (.dict (mkP :: dN vP f)), some (rowD way), some (Pl.d p), some h.d] t') := by
        simp [eg, vP, spT, spsCons, spsNil]
      rw [s1, ws_nx]
      have s2 : sSet 3 (cTup (aCons (cVar 5) (aStar (cVar 3) aNil))) [some (rowD hs), some (Pl.d s), some (.dict (mkP :: dN vP f)), some (rowD way), some (Pl.d p), some h.d] t' =
          some (.nx [some (rowD hs), some (Pl.d s), some (.dict (mkP :: dN vP f)), some (rowD (h :: way)), some (Pl.d p), some h.d] t') := by
        simp [rowD, hl]
      rw [s2, ws_nx]
      exact ⟨rfl, p, r, h :: way, some h.d, rfl, h2, by rw [← hW']; simp, rfl⟩
  unfold f_way_to fnSem
  show (match sem_way_to [some (rowD hs), some (Pl.d s), none, none, none, none] t with
    | some (.rt d t') => some (d, t')
    | some (.nx _ t') => some (.none, t')
    | none => none) = _
  rw [hw]
theorem fewest_none (hs : List Hn) (n : Nat) (s : Pl) (t : T) (h0 : 0 < n) (hn : n ≤ 7) (hh : hs.length ≤ 1000) (hs' : okP n s) (hk : s ∉ (srch hs n).map (·.1)) : f_fewest_handlings [rowD hs, Pl.d s] t = some (.none, t) := by
  have w := fun t => way_none hs n s t h0 hn hh hs' hk
  simp [f_fewest_handlings, sem_fewest_handlings, fnSem, w, isN]
theorem fewest_some (hs : List Hn) (n : Nat) (s : Pl) (t : T) (W : List Hn) (h0 : 0 < n) (hn : n ≤ 7) (hh : hs.length ≤ 1000) (hs' : okP n s) (hp : Pth (srch hs n) s W) (hW : W.length ≤ 10080) : f_fewest_handlings [rowD hs, Pl.d s] t = some (.int W.length, t) := by
  have w := fun t => way_some hs n s t W h0 hn hh hs' hp hW
  have e1 : dLen [rowD W] = some (.int W.length) := by simp [rowD]
  have e2 : isN (rowD W) = false := rfl
  simp [f_fewest_handlings, sem_fewest_handlings, fnSem, w, e1, e2]
end PP

namespace PP
open PySem PySem.Spec PyProof.Rows L2
/-! ### again and again -/
theorem nodup_bound : ∀ (n : Nat) (l : List Int), l.Nodup → (∀ x ∈ l, 0 ≤ x ∧ x < n) → l.length ≤ n
  | 0, l, _, h => by
    cases l with
    | nil => simp
    | cons x l => have := h x (by simp); omega
  | n + 1, l, hd, h => by
    have h1 := nodup_bound n (l.erase n) (hd.erase _) (fun x hx => by
      have h2 := (List.Nodup.mem_erase_iff hd).mp hx
      have h3 := h x h2.2
      have h4 : x ≠ (n : Int) := h2.1
      omega)
    have h2 : l.length ≤ (l.erase (n : Int)).length + 1 := by
      rw [List.length_erase]
      split <;> omega
    omega
theorem least {p : Nat → Prop} (h : ∃ k, p k) : ∃ k, p k ∧ ∀ i, i < k → ¬ p i := by
  obtain ⟨k, hk⟩ := h
  induction k using Nat.strongRecOn with
  | _ k ih =>
    by_cases c : ∃ i, i < k ∧ p i
    · obtain ⟨i, h1, h2⟩ := c
      exact ih i h1 h2
    · exact ⟨k, hk, fun i hi hp => c ⟨i, hi, hp⟩⟩
def pit (r : List Hn) (n : Int) : Nat → Int → Int
  | 0, s => s
  | k + 1, s => plc r n (pit r n k s)
theorem pit_range (r : List Hn) {n s : Int} (h0 : 0 ≤ s) (h1 : s < n) : ∀ k, 0 ≤ pit r n k s ∧ pit r n k s < n
  | 0 => ⟨h0, h1⟩
  | k + 1 => let h := pit_range r h0 h1 k; plc_range r h.1 h.2
theorem pit_add (r : List Hn) (n s : Int) (j : Nat) : ∀ k, pit r n (j + k) s = pit r n k (pit r n j s)
  | 0 => rfl
  | k + 1 => by
    show plc r n (pit r n (j + k) s) = plc r n (pit r n k (pit r n j s))
    rw [pit_add r n s j k]
theorem plc_inj (r : List Hn) {n a b : Int} (ha : 0 ≤ a ∧ a < n) (hb : 0 ≤ b ∧ b < n) (h : plc r n a = plc r n b) : a = b := by
  rw [← sht_plc r ha.1 ha.2, h, sht_plc r hb.1 hb.2]
theorem pit_inj (r : List Hn) {n a b : Int} (ha : 0 ≤ a ∧ a < n) (hb : 0 ≤ b ∧ b < n) : ∀ k, pit r n k a = pit r n k b → a = b
  | 0, h => h
  | k + 1, h => pit_inj r ha hb k (plc_inj r (pit_range r ha.1 ha.2 k) (pit_range r hb.1 hb.2 k) h)
theorem pit_back (r : List Hn) {n : Nat} {s : Int} (h0 : 0 ≤ s) (h1 : s < n) : ∃ k, (1 ≤ k ∧ k ≤ n) ∧ pit r n k s = s := by
  apply Classical.byContradiction
  intro hno
  have hnd : ∀ m, m ≤ n + 1 → ((List.range m).map fun k => pit r n k s).Nodup := by
    intro m hm
    rw [List.Nodup, List.pairwise_map]
    refine List.Pairwise.imp_of_mem ?_ (List.pairwise_lt_range (n := m))
    intro a b ha hb hab e
    have hb := List.mem_range.mp hb
    apply hno
    refine ⟨b - a, by omega, ?_⟩
    have e2 := pit_add r n s (b - a) a
    rw [show b - a + a = b by omega, ← e] at e2
    exact (pit_inj r ⟨h0, h1⟩ (pit_range r h0 h1 (b - a)) a e2).symm
  have := nodup_bound n _ (hnd (n + 1) (Nat.le_refl _)) (fun x hx => by
    obtain ⟨k, _, rfl⟩ := List.mem_map.mp hx
    exact pit_range r h0 h1 k)
  simp at this
  omega
theorem per_ex (r : List Hn) {n : Nat} {s : Int} (h0 : 0 ≤ s) (h1 : s < n) : ∃ k, (1 ≤ k ∧ k ≤ n ∧ pit r n k s = s) ∧ ∀ i, 1 ≤ i → i < k → pit r n i s ≠ s := by
  obtain ⟨k, hk, hm⟩ := least (p := fun k => 1 ≤ k ∧ pit r n k s = s) (let ⟨k, h, e⟩ := pit_back r h0 h1; ⟨k, h.1, e⟩)
  obtain ⟨k2, h2, e2⟩ := pit_back r h0 h1
  have hle : k ≤ n := by
    rcases Nat.lt_or_ge k2 k with c | c
    · exact absurd ⟨h2.1, e2⟩ (hm k2 c)
    · omega
  exact ⟨k, ⟨hk.1, hle, hk.2⟩, fun i h3 h4 e => hm i h4 ⟨h3, e⟩⟩
noncomputable def per (r : List Hn) (n : Nat) (s : Int) : Nat := if h : 0 ≤ s ∧ s < n then Classical.choose (per_ex r h.1 h.2) else 0
theorem per_spec (r : List Hn) {n : Nat} {s : Int} (h0 : 0 ≤ s) (h1 : s < n) : (1 ≤ per r n s ∧ per r n s ≤ n ∧ pit r n (per r n s) s = s) ∧ ∀ i, 1 ≤ i → i < per r n s → pit r n i s ≠ s := by
  unfold per
  rw [dif_pos ⟨h0, h1⟩]
  exact Classical.choose_spec (per_ex r h0 h1)
def cyc (r : List Hn) (n : Int) (k : Nat) (s : Int) : List D := (List.range k).map fun i => .int (pit r n i s)
theorem cyc_len {r : List Hn} {n : Int} {k : Nat} {s : Int} : (cyc r n k s).length = k := by unfold cyc; simp
theorem cyc_succ {r : List Hn} {n : Int} {k : Nat} {s : Int} : cyc r n (k + 1) s = cyc r n k s ++ [.int (pit r n k s)] := by
  unfold cyc
  rw [List.range_succ, List.map_append]
  rfl
theorem cyc_last {r : List Hn} {n : Int} {k : Nat} {s : Int} : atI (cyc r n (k + 1) s) (-1) = some (.int (pit r n k s)) := by
  rw [cyc_succ]
  exact atI_last _ _
/-! ### all sheets' rounds -/
def dps (ks : List Int) : List (D × D) := ks.map fun i => (.int i, .bool true)
def addK (ks : List Int) (i : Int) : List Int := if i ∈ ks then ks else ks ++ [i]
@[simp] theorem dps_nmk (ks : List Int) : nmk (dps ks) = true := by cases ks <;> rfl
theorem dps_get (ks : List Int) (i : Int) : (getD (dps ks) (.inl i)).isSome = decide (i ∈ ks) := by
  unfold getD dps
  rw [Option.isSome_map, find_any, List.any_map]
  induction ks with
  | nil => rfl
  | cons k ks ih =>
    rw [List.any_cons, ih]
    by_cases c : k = i
    · subst c; simp [isKy]
    · have c2 : ¬ i = k := fun z => c z.symm
      simp [isKy, c, c2]
theorem dps_put (ks : List Int) (i : Int) : putD (dps ks) (.inl i) (.bool true) = dps (addK ks i) := by
  unfold putD addK
  have e : ((dps ks).any fun p => isKy (.inl i) p.1) = decide (i ∈ ks) := by
    rw [← dps_get]
    unfold getD
    rw [Option.isSome_map, find_any]
  rw [e]
  by_cases c : i ∈ ks
  · rw [decide_eq_true c, if_pos rfl, if_pos c]
    unfold dps
    rw [List.map_map]
    refine List.map_congr_left fun k _ => ?_
    show (if isKy (.inl i) (.int k) = true then ((.int k : D), (.bool true : D)) else (.int k, .bool true)) = _
    split <;> rfl
  · rw [decide_eq_false c, if_neg (by simp), if_neg c]
    unfold dps
    rw [List.map_append]
    rfl
def okK (n : Nat) (ks : List Int) : Prop := ks.Nodup ∧ ∀ x ∈ ks, 0 ≤ x ∧ x < n
theorem okK_len {n : Nat} {ks : List Int} (h : okK n ks) : ks.length ≤ n := nodup_bound n ks h.1 h.2
theorem okK_add {n : Nat} {ks : List Int} {i : Int} (h : okK n ks) (hi : 0 ≤ i ∧ i < n) : okK n (addK ks i) := by
  unfold addK
  split
  · exact h
  · rename_i c
    refine ⟨List.nodup_append.mpr ⟨h.1, by simp, fun a ha b hb => ?_⟩, fun x hx => ?_⟩
    · rw [List.mem_singleton] at hb
      subst hb
      exact fun z => c (z ▸ ha)
    · rcases List.mem_append.mp hx with z | z
      · exact h.2 x z
      · rw [List.mem_singleton] at z
        subst z
        exact hi
def pits (r : List Hn) (n : Int) (k : Nat) (s : Int) : List Int := (List.range k).map fun i => pit r n i s
theorem cyc_pits (r : List Hn) (n : Int) (k : Nat) (s : Int) : cyc r n k s = (pits r n k s).map PyData.int := by
  unfold cyc pits
  rw [List.map_map]
  rfl
theorem pits_range (r : List Hn) {n : Nat} {s : Int} (h0 : 0 ≤ s) (h1 : s < n) (k : Nat) : ∀ x ∈ pits r n k s, 0 ≤ x ∧ x < (n : Int) := fun x hx => by
  obtain ⟨i, _, rfl⟩ := List.mem_map.mp hx
  exact pit_range r h0 h1 i
theorem okK_all {n : Nat} : ∀ (l : List Int) {ks : List Int}, okK n ks → (∀ x ∈ l, 0 ≤ x ∧ x < (n : Int)) → okK n (l.foldl addK ks)
  | [], _, h, _ => h
  | x :: l, _, h, hl => okK_all l (okK_add h (hl x (by simp))) fun y hy => hl y (by simp [hy])
noncomputable def rstep (r : List Hn) (n : Nat) (x : Nat × List Int) (s : Nat) : Nat × List Int :=
  if (s : Int) ∈ x.2 then x else (Nat.lcm x.1 (per r n s), (pits r n (per r n s) s).foldl addK x.2)
noncomputable def rfold (r : List Hn) (n m : Nat) : Nat × List Int := (List.range m).foldl (rstep r n) (if overs r % 2 = 1 then 2 else 1, [])
noncomputable def rnd (r : List Hn) (n : Nat) : Nat := (rfold r n n).1
theorem rfold_succ (r : List Hn) (n m : Nat) : rfold r n (m + 1) = rstep r n (rfold r n m) m := by
  unfold rfold
  rw [List.range_succ, List.foldl_append]
  rfl
theorem rfold_ok (r : List Hn) (n : Nat) : ∀ m, m ≤ n → 0 < (rfold r n m).1 ∧ okK n (rfold r n m).2
  | 0, _ => by
    refine ⟨?_, List.nodup_nil, fun x hx => by cases hx⟩
    show 0 < (if overs r % 2 = 1 then 2 else 1)
    split <;> decide
  | m + 1, h => by
    have ih := rfold_ok r n m (by omega)
    rw [rfold_succ]
    unfold rstep
    split
    · exact ih
    · have hp := per_spec r (n := n) (s := m) (by omega) (by omega)
      exact ⟨Nat.lcm_pos ih.1 (by omega), okK_all _ ih.2 (pits_range r (by omega) (by omega) _)⟩
end PP

namespace PP
open PySem PySem.Spec PyProof.Rows L2
/-! ### rounds -/
theorem pit_mul (r : List Hn) (n s : Int) (k : Nat) (h : pit r n k s = s) : ∀ m, pit r n (k * m) s = s
  | 0 => rfl
  | m + 1 => by rw [Nat.mul_succ, pit_add, pit_mul r n s k h m, h]
theorem pit_mod (r : List Hn) {n : Nat} {s : Int} (h0 : 0 ≤ s) (h1 : s < n) (k : Nat) : pit r n (k % per r n s) s = pit r n k s := by
  have hp := (per_spec r h0 h1).1.2.2
  have e : per r n s * (k / per r n s) + k % per r n s = k := Nat.div_add_mod k _
  have e2 := pit_add r n s (per r n s * (k / per r n s)) (k % per r n s)
  rw [e, pit_mul r n s _ hp] at e2
  exact e2.symm
theorem per_dvd (r : List Hn) {n : Nat} {s : Int} (h0 : 0 ≤ s) (h1 : s < n) (k : Nat) : pit r n k s = s ↔ per r n s ∣ k := by
  obtain ⟨⟨p1, p2, p3⟩, p4⟩ := per_spec r h0 h1
  constructor
  · intro h
    rw [← pit_mod r h0 h1 k] at h
    rcases Nat.eq_zero_or_pos (k % per r n s) with z | z
    · exact Nat.dvd_of_mod_eq_zero z
    · exact absurd h (p4 _ z (Nat.mod_lt _ (by omega)))
  · rintro ⟨m, rfl⟩
    exact pit_mul r n s _ p3 m
theorem pit_comm (r : List Hn) (n s : Int) (j k : Nat) : pit r n j (pit r n k s) = pit r n k (pit r n j s) := by
  rw [← pit_add, ← pit_add, Nat.add_comm]
theorem per_pit (r : List Hn) {n : Nat} {s : Int} (h0 : 0 ≤ s) (h1 : s < n) (i : Nat) : per r n (pit r n i s) = per r n s := by
  have hr := pit_range r h0 h1 i
  have key : ∀ k, pit r n k (pit r n i s) = pit r n i s ↔ pit r n k s = s := fun k => by
    rw [pit_comm]
    exact ⟨fun h => pit_inj r (pit_range r h0 h1 k) ⟨h0, h1⟩ i h, fun h => by rw [h]⟩
  apply Nat.dvd_antisymm
  · exact (per_dvd r hr.1 hr.2 _).mp ((key _).mpr ((per_dvd r h0 h1 _).mpr (Nat.dvd_refl _)))
  · exact (per_dvd r h0 h1 _).mp ((key _).mp ((per_dvd r hr.1 hr.2 _).mpr (Nat.dvd_refl _)))
theorem mem_addK {ks : List Int} {i x : Int} : x ∈ addK ks i ↔ x ∈ ks ∨ x = i := by
  unfold addK
  split
  · rename_i c
    constructor
    · exact .inl
    · rintro (h | rfl)
      · exact h
      · exact c
  · simp
theorem mem_addAll : ∀ (l ks : List Int) (x : Int), x ∈ l.foldl addK ks ↔ x ∈ ks ∨ x ∈ l
  | [], ks, x => by simp
  | i :: l, ks, x => by rw [List.foldl_cons, mem_addAll l, mem_addK, List.mem_cons, or_assoc]
theorem rfold_spec (r : List Hn) (n : Nat) : ∀ m, m ≤ n → (∀ s : Nat, s < m → (s : Int) ∈ (rfold r n m).2) ∧ (∀ x ∈ (rfold r n m).2, per r n x ∣ (rfold r n m).1) ∧ ((overs r % 2 = 1) → 2 ∣ (rfold r n m).1) ∧
    ∀ k, (∀ s : Nat, s < n → per r n s ∣ k) → (overs r % 2 = 1 → 2 ∣ k) → (rfold r n m).1 ∣ k
  | 0, _ => by
    refine ⟨fun s h => by omega, (fun x hx => by cases hx), fun h => ?_, fun k _ h2 => ?_⟩
    · show 2 ∣ (if overs r % 2 = 1 then 2 else 1)
      rw [if_pos h]
      exact Nat.dvd_refl _
    · show (if overs r % 2 = 1 then 2 else 1) ∣ k
      split
      · exact h2 (by assumption)
      · exact Nat.one_dvd _
  | m + 1, h => by
    obtain ⟨h1, h2, h3, h4⟩ := rfold_spec r n m (by omega)
    rw [rfold_succ]
    unfold rstep
    split
    · rename_i c
      refine ⟨fun s hs => ?_, h2, h3, h4⟩
      rcases Nat.lt_or_ge s m with z | z
      · exact h1 s z
      · rw [show s = m by omega]
        exact c
    · have hp := per_spec r (n := n) (s := m) (by omega) (by omega)
      refine ⟨fun s hs => ?_, fun x hx => ?_, fun ho => Nat.dvd_trans (h3 ho) (Nat.dvd_lcm_left _ _), fun k k1 k2 => Nat.lcm_dvd (h4 k k1 k2) (k1 m (by omega))⟩
      · rw [mem_addAll]
        rcases Nat.lt_or_ge s m with z | z
        · exact .inl (h1 s z)
        · right
          rw [show s = m by omega]
          exact List.mem_map.mpr ⟨0, List.mem_range.mpr (by omega), rfl⟩
      · rw [mem_addAll] at hx
        rcases hx with hx | hx
        · exact Nat.dvd_trans (h2 x hx) (Nat.dvd_lcm_left _ _)
        · obtain ⟨i, _, rfl⟩ := List.mem_map.mp hx
          show per r n (pit r n i m) ∣ _
          rw [per_pit r (n := n) (s := m) (by omega) (by omega)]
          exact Nat.dvd_lcm_right _ _
theorem rnd_pos (r : List Hn) (n : Nat) : 0 < rnd r n := (rfold_ok r n n (Nat.le_refl _)).1
theorem rnd_dvd (r : List Hn) (n : Nat) {s : Nat} (h : s < n) : per r n s ∣ rnd r n := by
  obtain ⟨h1, h2, _, _⟩ := rfold_spec r n n (Nat.le_refl _)
  exact h2 _ (h1 s h)
theorem rnd_even (r : List Hn) (n : Nat) (h : overs r % 2 = 1) : 2 ∣ rnd r n := (rfold_spec r n n (Nat.le_refl _)).2.2.1 h
theorem rnd_least (r : List Hn) (n k : Nat) (h : ∀ s : Nat, s < n → pit r n k s = s) (h2 : overs r % 2 = 1 → 2 ∣ k) : rnd r n ∣ k :=
  (rfold_spec r n n (Nat.le_refl _)).2.2.2 k (fun s hs => (per_dvd r (by omega) (by omega) k).mp (h s hs)) h2
theorem pit_rnd (r : List Hn) (n : Nat) {s : Nat} (h : s < n) : pit r n (rnd r n) s = s := (per_dvd r (by omega) (by omega) _).mpr (rnd_dvd r n h)
end PP

namespace PP
open PySem PySem.Spec PyProof.Rows L2
/-! ### how long a round of few sheets can be -/
theorem pits_nodup (r : List Hn) {n : Nat} {s : Int} (h0 : 0 ≤ s) (h1 : s < n) : (pits r n (per r n s) s).Nodup := by
  unfold pits
  rw [List.Nodup, List.pairwise_map]
  refine List.Pairwise.imp_of_mem ?_ (List.pairwise_lt_range (n := per r n s))
  intro a b ha hb hab e
  have hb := List.mem_range.mp hb
  have e2 := pit_add r n s (b - a) a
  rw [show b - a + a = b by omega, ← e] at e2
  have e3 := (pit_inj r ⟨h0, h1⟩ (pit_range r h0 h1 (b - a)) a e2).symm
  exact (per_spec r h0 h1).2 (b - a) (by omega) (by omega) e3
theorem addAll_len : ∀ (l ks : List Int), l.Nodup → (∀ x ∈ l, x ∉ ks) → (l.foldl addK ks).length = ks.length + l.length
  | [], ks, _, _ => rfl
  | i :: l, ks, hd, h => by
    rw [List.nodup_cons] at hd
    have hi : addK ks i = ks ++ [i] := if_neg (h i (by simp))
    rw [List.foldl_cons, hi, addAll_len l (ks ++ [i]) hd.2 (fun x hx z => by
      rcases List.mem_append.mp z with z | z
      · exact h x (by simp [hx]) z
      · rw [List.mem_singleton] at z
        subst z
        exact hd.1 hx)]
    simp only [List.length_append, List.length_cons, List.length_nil]
    omega
def closedK (r : List Hn) (n : Nat) (ks : List Int) : Prop := ∀ x ∈ ks, ∀ i, pit r n i x ∈ ks
theorem rfold_bound (r : List Hn) (n : Nat) : ∀ m, m ≤ n → closedK r n (rfold r n m).2 ∧ ((rfold r n m).1 ≤ 2 ^ (rfold r n m).2.length ∨ ((rfold r n m).2 = [] ∧ (rfold r n m).1 ≤ 2))
  | 0, _ => by
    refine ⟨(fun x hx => by cases hx), .inr ⟨rfl, ?_⟩⟩
    show (if overs r % 2 = 1 then 2 else 1) ≤ 2
    split <;> decide
  | m + 1, h => by
    obtain ⟨h1, h2⟩ := rfold_bound r n m (by omega)
    rw [rfold_succ]
    unfold rstep
    split
    · exact ⟨h1, h2⟩
    · rename_i c
      have m0 : (0 : Int) ≤ (m : Int) := by omega
      have m1 : (m : Int) < (n : Int) := by omega
      obtain ⟨⟨p1, p2, p3⟩, _⟩ := per_spec r (n := n) (s := m) m0 m1
      refine ⟨fun x hx i => ?_, .inl ?_⟩
      · rw [mem_addAll] at hx ⊢
        rcases hx with hx | hx
        · exact .inl (h1 x hx i)
        · right
          obtain ⟨j, _, rfl⟩ := List.mem_map.mp hx
          show pit r n i (pit r n j m) ∈ _
          rw [← pit_add, ← pit_mod r m0 m1]
          exact List.mem_map.mpr ⟨(j + i) % per r n m, List.mem_range.mpr (Nat.mod_lt _ (by omega)), rfl⟩
      · have hout : ∀ x ∈ pits r n (per r n m) m, x ∉ (rfold r n m).2 := fun x hx z => by
          obtain ⟨j, hj, rfl⟩ := List.mem_map.mp hx
          have hj := List.mem_range.mp hj
          apply c
          have := h1 _ z (per r n m - j)
          rw [← pit_add, show j + (per r n m - j) = per r n m by omega, p3] at this
          exact this
        have hpl : (pits r n (per r n m) m).length = per r n m := by unfold pits; simp
        rw [addAll_len _ _ (pits_nodup r m0 m1) hout, hpl]
        have hle : Nat.lcm (rfold r n m).1 (per r n m) ≤ (rfold r n m).1 * per r n m := Nat.le_of_dvd (Nat.mul_pos (rfold_ok r n m (by omega)).1 (by omega)) (Nat.lcm_dvd_mul _ _)
        have hk : per r n m ≤ 2 ^ (per r n m - 1) := by
          have := Nat.lt_two_pow_self (n := per r n m - 1)
          omega
        rcases h2 with h2 | ⟨h2, h3⟩
        · refine Nat.le_trans hle (Nat.le_trans (Nat.mul_le_mul h2 hk) ?_)
          rw [← Nat.pow_add]
          exact Nat.pow_le_pow_right (by decide) (by omega)
        · refine Nat.le_trans hle (Nat.le_trans (Nat.mul_le_mul h3 hk) ?_)
          rw [h2, Nat.mul_comm, ← Nat.pow_succ]
          exact Nat.pow_le_pow_right (by decide) (by simp; omega)
theorem rnd_bound (r : List Hn) (n : Nat) (h0 : 0 < n) (h1 : n ≤ 16) : rnd r n ≤ 65536 := by
  obtain ⟨_, h⟩ := rfold_bound r n n (Nat.le_refl _)
  have hl := okK_len (rfold_ok r n n (Nat.le_refl _)).2
  rcases h with h | ⟨_, h⟩
  · exact Nat.le_trans h (Nat.le_trans (Nat.pow_le_pow_right (by decide) (Nat.le_trans hl h1)) (by decide))
  · exact Nat.le_trans h (by decide)
/-! ### the sheets behind many times -/
def sit (r : List Hn) (n : Int) : Nat → Int → Int
  | 0, p => p
  | k + 1, p => sit r n k (sht r n p)
theorem sit_range (r : List Hn) {n : Int} : ∀ (k : Nat) {p : Int}, 0 ≤ p → p < n → 0 ≤ sit r n k p ∧ sit r n k p < n
  | 0, p, h0, h1 => ⟨h0, h1⟩
  | k + 1, p, h0, h1 => let h := sht_range r h0 h1; sit_range r k h.1 h.2
theorem sit_pit (r : List Hn) {n : Int} : ∀ (k : Nat) {s : Int}, 0 ≤ s → s < n → sit r n k (pit r n k s) = s
  | 0, s, _, _ => rfl
  | k + 1, s, h0, h1 => by
    have h := pit_range r h0 h1 k
    show sit r n k (sht r n (plc r n (pit r n k s))) = s
    rw [sht_plc r h.1 h.2, sit_pit r k h0 h1]
theorem sit_inj (r : List Hn) {n : Int} : ∀ (k : Nat) {a b : Int}, 0 ≤ a ∧ a < n → 0 ≤ b ∧ b < n → sit r n k a = sit r n k b → a = b
  | 0, a, b, _, _, h => h
  | k + 1, a, b, ha, hb, h => by
    have h2 := sit_inj r k (sht_range r ha.1 ha.2) (sht_range r hb.1 hb.2) h
    rw [← plc_sht r ha.1 ha.2, h2, plc_sht r hb.1 hb.2]
def pileL (r : List Hn) (n k : Nat) : List D := (List.range n).map fun (p : Nat) => .int (sit r n k p)
theorem pileL_len {r : List Hn} {n k : Nat} : (pileL r n k).length = n := by unfold pileL; simp
theorem find_idx {f : Nat → Int} {n j : Nat} (hj : j < n) (hi : ∀ a b, a < n → b < n → f a = f b → a = b) : ((List.range n).map fun (p : Nat) => (PyData.int (f p) : D)).findIdx? (fun z => PyData.eqv z (.int (f j))) = some j := by
  rw [List.findIdx?_eq_some_iff_getElem]
  refine ⟨by simpa using hj, by simp, fun i hij => ?_⟩
  simp
  intro z
  have := hi i j (by omega) hj z
  omega
theorem index_eq (r : List Hn) (n k : Nat) {s : Nat} (hs : s < n) : dIndex (.list (pileL r n k)) (.int s) = some (.int (pit r n k s)) := by
  have hp := pit_range r (n := n) (s := s) (by omega) (by omega) k
  have e : ((sit r n k ((pit r n k s).toNat : Int)) : Int) = (s : Int) := by
    rw [Int.toNat_of_nonneg hp.1]
    exact sit_pit r k (by omega) (by omega)
  have hf := find_idx (f := fun p => sit r n k (p : Int)) (n := n) (j := (pit r n k s).toNat) (by omega) (fun a b ha hb h => by
    have := sit_inj r k (n := n) (a := a) (b := b) ⟨by omega, by omega⟩ ⟨by omega, by omega⟩ h
    omega)
  simp only [e] at hf
  show (if _ then _ else _) = _
  rw [if_pos ⟨rfl, List.all_eq_true.mpr fun x hx => by
    unfold pileL at hx
    obtain ⟨i, _, rfl⟩ := List.mem_map.mp hx
    rfl⟩]
  unfold pileL
  rw [hf]
  show some (PyData.int ((pit r n k s).toNat : Int)) = _
  rw [Int.toNat_of_nonneg hp.1]
theorem pile_step (r : List Hn) (n k : Nat) {p : Nat} (hp : p < n) : atI (pileL r n k) (sht r n p) = some (.int (sit r n (k + 1) p)) := by
  have h := sht_range r (n := n) (p := p) (by omega) (by omega)
  have e : sht r n p = ((sht r n p).toNat : Int) := (Int.toNat_of_nonneg h.1).symm
  rw [e, at_nat (by rw [pileL_len]; omega)]
  unfold pileL
  simp
  rw [Int.max_eq_left h.1]
  rfl
theorem eqv_ints : ∀ xs ys : List Int, PyData.eqvAll (xs.map PyData.int) (ys.map PyData.int) = decide (xs = ys)
  | [], [] => by unfold PyData.eqvAll; rfl
  | [], y :: ys => by simp [PyData.eqvAll]
  | x :: xs, [] => by simp [PyData.eqvAll]
  | x :: xs, y :: ys => by
    rw [List.map_cons, List.map_cons, PyData.eqvAll, eqv_int, eqv_ints xs ys, Bool.eq_iff_iff]
    simp
theorem ne_ints (xs ys : List Int) (hx : xs.length ≤ LIM) (hy : ys.length ≤ LIM) : dEq true (.list (xs.map .int)) (.list (ys.map .int)) = some (.bool (!decide (xs = ys))) := by
  unfold dEq
  rw [if_pos ⟨lk_okD (lk_ints hx) (by decide), lk_okD (lk_ints hy) (by decide)⟩]
  have e : PyData.eqv (.list (xs.map PyData.int)) (.list (ys.map PyData.int)) = decide (xs = ys) := by
    rw [PyData.eqv]
    exact eqv_ints xs ys
  rw [e]
  rfl
def pileI (r : List Hn) (n k : Nat) : List Int := (List.range n).map fun (p : Nat) => sit r n k p
def idI (n : Nat) : List Int := (List.range n).map fun (p : Nat) => (p : Int)
theorem pileL_I (r : List Hn) (n k : Nat) : pileL r n k = (pileI r n k).map PyData.int := by
  unfold pileL pileI
  rw [List.map_map]
  rfl
theorem rng_I (n : Nat) : rng 0 n = (idI n).map PyData.int := by
  rw [rng_map]
  unfold idI
  rw [List.map_map]
  exact List.map_congr_left fun i _ => by show _ = PyData.int (i : Int); rw [Int.zero_add]
theorem pile_id (r : List Hn) (n k : Nat) : pileI r n k = idI n ↔ ∀ s : Nat, s < n → pit r n k s = s := by
  unfold pileI idI
  rw [List.map_inj_left]
  constructor
  · intro h s hs
    have hp := pit_range r (n := n) (s := s) (by omega) (by omega) k
    have h1 := sit_pit r k (n := n) (s := s) (by omega) (by omega)
    have h2 := h (pit r n k s).toNat (List.mem_range.mpr (by omega))
    rw [Int.toNat_of_nonneg hp.1, h1] at h2
    exact h2.symm
  · intro h p hp
    have hp := List.mem_range.mp hp
    have h1 := sit_pit r k (n := n) (s := p) (by omega) (by omega)
    rw [h p hp] at h1
    exact h1
theorem pit_mod_rnd (r : List Hn) (n : Nat) {s : Nat} (h : s < n) (k : Nat) : pit r n (k % rnd r n) s = pit r n k s := by
  have e : rnd r n * (k / rnd r n) + k % rnd r n = k := Nat.div_add_mod k _
  have e2 := pit_add r n s (rnd r n * (k / rnd r n)) (k % rnd r n)
  rw [e, pit_mul r n s _ (pit_rnd r n h)] at e2
  exact e2.symm
end PP

namespace PP
open PySem PySem.Spec PyProof.Rows L2
theorem erase_perm {α : Type} : ∀ (l : List α) (j : Nat) (a : α), l[j]? = some a → (a :: l.eraseIdx j).Perm l
  | [], _, _, h => by simp at h
  | x :: l, 0, a, h => by simp at h; subst h; exact List.Perm.refl _
  | x :: l, j + 1, a, h => by
    have ih := erase_perm l j a (by simpa using h)
    rw [List.eraseIdx_cons_succ]
    exact (List.Perm.swap x a _).trans (ih.cons x)
theorem er_map {α β : Type} (f : α → β) : ∀ (l : List α) (j : Nat), (l.map f).eraseIdx j = (l.eraseIdx j).map f
  | [], _ => rfl
  | _ :: _, 0 => rfl
  | x :: l, j + 1 => by rw [List.map_cons, List.eraseIdx_cons_succ, List.eraseIdx_cons_succ, List.map_cons, er_map f l j]
theorem okP_perm {n : Nat} {xs : List Int} (b : Bool) (h : xs.Perm (sheets n)) : okP n (xs, b) :=
  ⟨by show xs.length = n; rw [h.length_eq, sheets_len], h.nodup_iff.mpr (sheets_nodup n), fun x hx => h.mem_iff.mp hx⟩
theorem lk_way {W : List Hn} (h : W.length ≤ LIM) : lkOk 2 (rowD W) := ⟨by simpa using h, fun x hx => by
  obtain ⟨y, _, rfl⟩ := List.mem_map.mp hx
  cases y <;> trivial⟩
theorem pl_eq {n : Nat} {s : Pl} (hs : okP n s) (hn : n ≤ 7) : dEq true (Pl.d s) (Pl.d s) = some (.bool false) := ne_same (lk_pl s (okP_len hs hn)) (by decide)
theorem lens_ok2 {hs : List Hn} {n : Nat} {f : Fd} (g : Gd hs n f) {x : Pl × Nat} (hx : x ∈ lensF f) : okP n x.1 := by
  have : x.1 ∈ f.map (·.1) := by rw [← lensF_keys]; exact List.mem_map_of_mem hx
  obtain ⟨y, hy, e⟩ := List.mem_map.mp this
  rw [← e]
  exact g.ok y hy
theorem in_hn (h : Hn) (hs : List Hn) (hh : h ∈ hs) : inD h.d (hs.map Hn.d) = true := by
  unfold inD
  rw [List.any_eq_true]
  refine ⟨h.d, List.mem_map.mpr ⟨h, hh, rfl⟩, ?_⟩
  cases h <;> simp [Hn.d]
theorem ne_nil2 : dEq true (.list []) (.list []) = some (.bool false) := by unfold dEq; rw [eqv_nil]; rfl
theorem law_holds (ns : List Int) (h : ns.length ≤ 63) : ∃ t', sem_law (lawE 12 1) ⟨ns, 0, 0⟩ = some (.rt (.bool true) t') := by
  have e0 : lawE 12 1 = [none, some tapeD, none, none, none, none, none, none, none, none, none, none] := rfl
  have l0 : 0 ≤ LIM := Nat.zero_le _
  have l1 : 1 ≤ LIM := by decide
  have l2 : 2 ≤ LIM := by decide
  refine wr_ok ?_
  rw [e0]
  refine wr_seq (ws_for (fun e t => ∃ x2 x3 x4 x5 x6 x7 x8 x9 x10, e = [none, some tapeD, x2, x3, x4, x5, x6, x7, x8, x9, x10, none]) (ds := rngZ 3) rfl ⟨_, _, _, _, _, _, _, _, _, rfl⟩ ?_ ?_)
  · rintro d _ e t ⟨x2, x3, x4, x5, x6, x7, x8, x9, x10, rfl⟩
    refine ⟨_, rfl, ws_seq ?_⟩
    obtain ⟨hs, t1, hc, _, hl⟩ := comp_draw 3 (by omega) (by omega) 11 (cVar 1) [none, some tapeD, some d, x3, x4, x5, x6, x7, x8, x9, x10, none] (fun h t => rfl) (fun h => rfl) hnAll t
    have hl : hs.length ≤ 8 := hl
    have hll : hs.length ≤ LIM := by show _ ≤ 100000; omega
    simp [names_eq, hc, hll, -a_sSeq, -a_sFor]
    rw [show (PyData.tuple (hs.map Hn.d) : D) = rowD hs from rfl]
    have e2 := draw_eq (n := 5) (t := t1) (by omega) (by omega)
    have r2 := drv_range (n := 5) (t := t1) (by omega) (by omega)
    obtain ⟨n, hn⟩ : ∃ n : Nat, (1 : Int) + drv 5 t1 = n := ⟨(1 + drv 5 t1).toNat, by omega⟩
    refine ws_seq ?_
    simp [e2, hn, -a_sSeq, -a_sFor]
    generalize drt 5 t1 = t2
    have h0 : 0 < n := by omega
    have h7 : n ≤ 7 := by omega
    have hh : hs.length ≤ 1000 := by omega
    have w1 := fun t => reached_eq hs n t h0 h7 hh
    have hr : okRg 0 (n : Int) = true := okRg_of (by omega) (by omega) (by omega) (by omega)
    have eb : PyData.tuple [.tuple (rng 0 n), .bool false] = Pl.d (beg n) := by rw [rng_sheets]; rfl
    have g := (srch_ok hs n).gd
    have hz := len_lim g h7
    refine ws_seq ?_
    simp [w1, hr, eb, l2, -a_sSeq, -a_sFor]
    refine ws_for (fun e t => ∃ s y7 y8 y9 y10, e = [none, some tapeD, some d, some (rowD hs), some (.int n), some (.dict (mkP :: dN vI (lensF (srch hs n)))), some (Pl.d s), y7, y8, y9, y10, none] ∧ okP n s) (ds := rngZ 4) rfl ⟨beg n, x7, x8, x9, x10, rfl, okP_beg n⟩ ?_ ?_
    · rintro d2 _ e t3 ⟨s, y7, y8, y9, y10, rfl, ok⟩
      refine ⟨_, rfl, ?_⟩
      generalize hQ : (fun (e : Env) (t : T) => ∃ s y7 y8 y9 y10, e = [none, some tapeD, some d, some (rowD hs), some (.int n), some (.dict (mkP :: dN vI (lensF (srch hs n)))), some (Pl.d s), y7, y8, y9, y10, none] ∧ okP n s) = Q
      refine ws_seq ?_
      have rest : ∀ z8 z9 : D, WS ((sSeq (sParF 6 10 (cTup (aCons (cTup aNil) (aCons (cBin (dEq false) (cCall f_law_draw (aCons (cVar 1) (aCons (cC (.int 2)) aNil))) (cC (.int 0))) aNil))) (cLstRg (cRg1 (cVar 4)))) (sSeq (sWhile (cTest (cBin (dEq true) (cVar 10) (cLst aNil))) (sSetM 6 (mTup (maCons (mBin dAdd (mOf (useV [10] (cBin dIx (cVar 6) (cC (.int 0))))) (mTup (maCons (mPop 10 (useB (cCall f_law_draw (aCons (cVar 1) (aCons (cBI dLen (aCons (cVar 10) aNil)) aNil))))) maNil))) (maCons (mOf (useV [10] (cBin dIx (cVar 6) (cC (.int 1))))) maNil))))) (sIf (cTest (cBin (dEq false) (cCall f_law_draw (aCons (cVar 1) (aCons (cC (.int 2)) aNil))) (cC (.int 0)))) (sSet 6 (useV [10] (cBin dIx (cBI dNList (aCons (cVar 5) aNil)) (cCall f_law_draw (aCons (cVar 1) (aCons (cBI dLenN (aCons (cVar 5) aNil)) aNil)))))) sSkip))) [none, some tapeD, some d, some (rowD hs), some (.int n), some (.dict (mkP :: dN vI (lensF (srch hs n)))), some (Pl.d s), some d2, some z8, some z9, y10, none] t3) Q := by
        intro z8 z9
        refine ws_seq ?_
        have e3 := draw_eq (n := 2) (t := t3) (by omega) (by omega)
        simp [e3, l0, l2, hr, -a_sSeq, -a_sFor]
        generalize (decide (drv 2 t3 = 0)) = b
        generalize drt 2 t3 = t4
        rw [rng_sheets]
        refine ws_seq (ws_while (fun m e t => ∃ xs ys, e = [none, some tapeD, some d, some (rowD hs), some (.int n), some (.dict (mkP :: dN vI (lensF (srch hs n)))), some (Pl.d (xs, b)), some d2, some z8, some z9, some (.list (ys.map .int)), none] ∧ (xs ++ ys).Perm (sheets n) ∧ ys.length = m) ?_ n (by omega) ⟨[], sheets n, rfl, List.Perm.refl _, sheets_len n⟩)
        rintro m e t5 ⟨xs, ys, rfl, hp, rfl⟩
        have hlen := hp.length_eq
        rw [List.length_append, sheets_len] at hlen
        have hne := ne_ints ys [] (by show _ ≤ 100000; omega) l0
        by_cases c : ys = []
        · subst c
          refine .inl ⟨by simp [l0, ne_nil2], ?_⟩
          rw [List.append_nil] at hp
          have ok2 := okP_perm b hp
          have e6 := draw_eq (n := 2) (t := t5) (by omega) (by omega)
          by_cases z : drv 2 t5 = 0
          · have hk : 0 < (srch hs n).length := List.length_pos_iff.mpr g.ne
            have e7 := draw_eq (n := (srch hs n).length) (t := drt 2 t5) (by omega) (by omega)
            have r7 := drv_range (n := (srch hs n).length) (t := drt 2 t5) (by omega) (by omega)
            obtain ⟨j, hj⟩ : ∃ j : Nat, drv (srch hs n).length (drt 2 t5) = j := ⟨(drv (srch hs n).length (drt 2 t5)).toNat, by omega⟩
            have hjl : j < (lensF (srch hs n)).length := by rw [lensF_len]; omega
            have ha : atI ((dN vI (lensF (srch hs n))).map (·.1)) (j : Int) = some (Pl.d (lensF (srch hs n))[j].1) := by
              rw [at_nat (by rw [List.length_map, dN_len]; exact hjl)]
              unfold dN
              simp
            have hok := lens_ok2 g (List.getElem_mem hjl)
            have q : (sIf (cTest (cBin (dEq false) (cCall f_law_draw (aCons (cVar 1) (aCons (cC (.int 2)) aNil))) (cC (.int 0)))) (sSet 6 (useV [10] (cBin dIx (cBI dNList (aCons (cVar 5) aNil)) (cCall f_law_draw (aCons (cVar 1) (aCons (cBI dLenN (aCons (cVar 5) aNil)) aNil)))))) sSkip) [none, some tapeD, some d, some (rowD hs), some (.int n), some (.dict (mkP :: dN vI (lensF (srch hs n)))), some (Pl.d (xs, b)), some d2, some z8, some z9, some (.list ([].map .int)), none] t5 =
                some (.nx [none, some tapeD, some d, some (rowD hs), some (.int n), some (.dict (mkP :: dN vI (lensF (srch hs n)))), some (Pl.d (lensF (srch hs n))[j].1), some d2, some z8, some z9, some (.list ([].map .int)), none] (drt (srch hs n).length (drt 2 t5))) := by
              simp [e6, z, lensF_len, e7, hj, ha]
            show WS ((sIf (cTest (cBin (dEq false) (cCall f_law_draw (aCons (cVar 1) (aCons (cC (.int 2)) aNil))) (cC (.int 0)))) (sSet 6 (useV [10] (cBin dIx (cBI dNList (aCons (cVar 5) aNil)) (cCall f_law_draw (aCons (cVar 1) (aCons (cBI dLenN (aCons (cVar 5) aNil)) aNil)))))) sSkip) [none, some tapeD, some d, some (rowD hs), some (.int n), some (.dict (mkP :: dN vI (lensF (srch hs n)))), some (Pl.d (xs, b)), some d2, some z8, some z9, some (.list ([].map .int)), none] t5) Q
            rw [q, ws_nx, ← hQ]
            exact ⟨_, _, _, _, _, rfl, hok⟩
          · have q : (sIf (cTest (cBin (dEq false) (cCall f_law_draw (aCons (cVar 1) (aCons (cC (.int 2)) aNil))) (cC (.int 0)))) (sSet 6 (useV [10] (cBin dIx (cBI dNList (aCons (cVar 5) aNil)) (cCall f_law_draw (aCons (cVar 1) (aCons (cBI dLenN (aCons (cVar 5) aNil)) aNil)))))) sSkip) [none, some tapeD, some d, some (rowD hs), some (.int n), some (.dict (mkP :: dN vI (lensF (srch hs n)))), some (Pl.d (xs, b)), some d2, some z8, some z9, some (.list ([].map .int)), none] t5 =
                some (.nx [none, some tapeD, some d, some (rowD hs), some (.int n), some (.dict (mkP :: dN vI (lensF (srch hs n)))), some (Pl.d (xs, b)), some d2, some z8, some z9, some (.list ([].map .int)), none] (drt 2 t5)) := by
              simp [e6, z]
            show WS ((sIf (cTest (cBin (dEq false) (cCall f_law_draw (aCons (cVar 1) (aCons (cC (.int 2)) aNil))) (cC (.int 0)))) (sSet 6 (useV [10] (cBin dIx (cBI dNList (aCons (cVar 5) aNil)) (cCall f_law_draw (aCons (cVar 1) (aCons (cBI dLenN (aCons (cVar 5) aNil)) aNil)))))) sSkip) [none, some tapeD, some d, some (rowD hs), some (.int n), some (.dict (mkP :: dN vI (lensF (srch hs n)))), some (Pl.d (xs, b)), some d2, some z8, some z9, some (.list ([].map .int)), none] t5) Q
            rw [q, ws_nx, ← hQ]
            exact ⟨_, _, _, _, _, rfl, ok2⟩
        · have hy : 0 < ys.length := List.length_pos_iff.mpr c
          refine .inr ⟨ys.length - 1, by omega, ?_, ?_⟩
          · simp only [List.map_nil] at hne
            simp [l0, hne, c]
          · have e7 := draw_eq (n := ys.length) (t := t5) (by omega) (by omega)
            have r7 := drv_range (n := ys.length) (t := t5) (by omega) (by omega)
            obtain ⟨j, hj⟩ : ∃ j : Nat, drv ys.length t5 = j := ⟨(drv ys.length t5).toNat, by omega⟩
            have hjl : j < ys.length := by omega
            have hyl : ys.length ≤ LIM := by show _ ≤ 100000; omega
            have hix : ixN ys.length (j : Int) = some j := by
              unfold ixN
              rw [if_pos (by omega), if_pos (by omega), Int.toNat_natCast]
            have hxl : xs.length + 1 ≤ LIM := by show _ ≤ 100000; omega
            have hpp : (xs ++ [ys[j]] ++ ys.eraseIdx j).Perm (sheets n) := by
              refine List.Perm.trans ?_ hp
              rw [List.append_assoc]
              exact (erase_perm ys j ys[j] (List.getElem?_eq_getElem hjl)).append_left xs
            have hst : sSetM 6 (mTup (maCons (mBin dAdd (mOf (useV [10] (cBin dIx (cVar 6) (cC (.int 0))))) (mTup (maCons (mPop 10 (useB (cCall f_law_draw (aCons (cVar 1) (aCons (cBI dLen (aCons (cVar 10) aNil)) aNil))))) maNil))) (maCons (mOf (useV [10] (cBin dIx (cVar 6) (cC (.int 1))))) maNil)))
                [none, some tapeD, some d, some (rowD hs), some (.int n), some (.dict (mkP :: dN vI (lensF (srch hs n)))), some (Pl.d (xs, b)), some d2, some z8, some z9, some (.list (ys.map .int)), none] t5 =
                some (.nx [none, some tapeD, some d, some (rowD hs), some (.int n), some (.dict (mkP :: dN vI (lensF (srch hs n)))), some (Pl.d (xs ++ [ys[j]], b)), some d2, some z8, some z9, some (.list ((ys.eraseIdx j).map .int)), none] (drt ys.length t5)) := by
              have ad : dAdd (.tuple (xs.map .int)) (.tuple [.int ys[j]]) = some (.tuple (xs.map .int ++ [.int ys[j]])) := if_pos (by simpa using hxl)
              simp [atPl0, atPl1, e7, hj, hyl, hix, List.getElem?_eq_getElem hjl, l1, l2, ad, atomic, er_map]
              simp [Pl.d]
            rw [hst, ws_nx]
            exact ⟨_, _, rfl, hpp, by rw [List.length_eraseIdx_of_lt hjl]⟩
      by_cases k : s ∈ (srch hs n).map (·.1)
      · obtain ⟨x, hx, ex⟩ := List.mem_map.mp k
        obtain ⟨i, hi⟩ := List.mem_iff_getElem?.mp hx
        obtain ⟨x1, x2'⟩ := x
        have ex : x1 = s := ex
        subst ex
        obtain ⟨W, hW, hWl⟩ := pth_ex g i x1 x2' hi
        have hilt := (List.getElem?_eq_some_iff.mp hi).1
        have v1 := fun t => way_some hs n x1 t W h0 h7 hh ok hW (by omega)
        have v2 := fun t => fewest_some hs n x1 t W h0 h7 hh ok hW (by omega)
        have v3 := dNGet1_mk (lensF (srch hs n)) x1
        rw [pth_len g hW] at v3
        simp only [Option.map_some, Option.getD_some, vI] at v3
        obtain ⟨v4, v5⟩ := pth_run g hW
        simp [v1, v2, -a_sSeq, -a_sFor]
        refine ws_seq ?_
        have i1 : isN (rowD W) = false := rfl
        have i2 : isN (.int (W.length : Int)) = false := rfl
        simp [v3, i1, i2, -a_sSeq, -a_sFor]
        have hWL : W.length ≤ LIM := by show _ ≤ 100000; omega
        have k1 := law_laid_eq W n t3 h0 (by omega)
        rw [runP_fst, v4] at k1
        have k2 := turns_eq W t3 hWL
        rw [← runP_snd n W, v4] at k2
        have k3 : isTy .tuple (rowD W) = true := rfl
        have k4 : noDict (rowD W) = true := rfl
        have k5 : dLen [rowD W] = some (.int W.length) := by simp [rowD]
        have k6 := comp_map (is := [11]) (sp := spN) (test := cTest (cBin (dIn true) (cVar 11) (cVar 3))) (elt := cVar 11) Hn.d (fun _ => false) Hn.d [none, some tapeD, some d, some (rowD hs), some (.int n), some (.dict (mkP :: dN vI (lensF (srch hs n)))), some (Pl.d x1), some d2, some (.int W.length), some (rowD W), y10, none] t3 W (fun h hh => ⟨[h.d], rfl, by simp [rowD, pl_row, in_hn h hs (v5 h hh)], fun z => nomatch z⟩)
        rw [filt_no] at k6
        have k7 : PyData.tuple [.tuple (x1.1.map .int), .bool x1.2] = Pl.d x1 := rfl
        have k8 := pl_eq ok h7
        have k9 : iTupl (cVar 9) [none, some tapeD, some d, some (rowD hs), some (.int n), some (.dict (mkP :: dN vI (lensF (srch hs n)))), some (Pl.d x1), some d2, some (.int W.length), some (rowD W), y10, none] t3 = some (W.map Hn.d, t3) := by simp [rowD]
        refine ws_seq ?_
        have s3 : WS (sIf (cTest (cIsN true (cVar 9))) (sSeq (sIf (cOrT (cNot (cTest (cIsi [.tuple] (cVar 9)))) (cTest (cBin (dEq true) (cBI dLen (aCons (cVar 9) aNil)) (cVar 8)))) (sRet (cC (.bool false))) sSkip) (sSeq (sIf (cTest (cBin (dEq true) (cComp (iTupl (cVar 9)) [11] [11] spN (cTest (cBin (dIn true) (cVar 11) (cVar 3))) (cVar 11)) (cLst aNil))) (sRet (cC (.bool false))) sSkip) (sIf (cTest (cBin (dEq true) (cTup (aCons (cBI dTup (aCons (cCall f_law_laid (aCons (cVar 9) (aCons (cVar 4) aNil))) aNil)) (aCons (cCall f_law_turns (aCons (cVar 9) aNil)) aNil))) (cVar 6))) (sRet (cC (.bool false))) sSkip))) sSkip [none, some tapeD, some d, some (rowD hs), some (.int n), some (.dict (mkP :: dN vI (lensF (srch hs n)))), some (Pl.d x1), some d2, some (.int W.length), some (rowD W), y10, none] t3)
            (fun e t => e = [none, some tapeD, some d, some (rowD hs), some (.int n), some (.dict (mkP :: dN vI (lensF (srch hs n)))), some (Pl.d x1), some d2, some (.int W.length), some (rowD W), y10, none] ∧ t = t3) := by
          simp only [List.map_nil] at k6
          simp [i1, -a_sSeq]
          refine ws_seq ?_
          simp [k3, k4, k5, -a_sSeq]
          refine ws_seq ?_
          simp [rowD] at k6
          simp [rowD, k6, l0, ne_nil2, -a_sSeq]
          simp [rowD] at k1 k2
          have hx1 : x1.1.length ≤ LIM := okP_len ok h7
          simp [k1, k2, k7, k8, l2]
        refine ws_imp s3 ?_
        rintro e t ⟨rfl, rfl⟩
        exact rest _ _
      · have v1 := fun t => way_none hs n s t h0 h7 hh ok k
        have v2 := fun t => fewest_none hs n s t h0 h7 hh ok k
        have v3 := dNGet1_mk (lensF (srch hs n)) s
        rw [look_none.mpr (by rw [lensF_keys]; exact k)] at v3
        simp only [Option.map_none, Option.getD_none] at v3
        have hlk := like_refl 8 .none t3 trivial
        simp [v1, v2, -a_sSeq, -a_sFor]
        refine ws_seq ?_
        simp [v3, hlk, isN, -a_sSeq, -a_sFor]
        refine ws_seq ?_
        simp [isN, -a_sSeq, -a_sFor]
        exact rest _ _
    · rintro e t ⟨s, y7, y8, y9, y10, rfl, _⟩
      exact ⟨_, _, _, _, _, _, _, _, _, rfl⟩
  · rintro e t ⟨x2, x3, x4, x5, x6, x7, x8, x9, x10, rfl⟩
    have k1 : okP 3 ([1, 0, 2], false) := ⟨rfl, by decide, by decide⟩
    have k2 : okP 1 ([0], false) := ⟨rfl, by decide, by decide⟩
    have k3 : ([1, 0, 2], false) ∉ (srch [.out] 3).map (·.1) := by decide +kernel
    have k4 : look (srch [] 1) ([0], false) = some none := by decide +kernel
    have a1 := fun t => fewest_none [.out] 3 ([1, 0, 2], false) t (by decide) (by decide) (by decide) k1 k3
    have a2 := fun t => way_some [] 1 ([0], false) t [] (by decide) (by decide) (by decide) k2 (.nil k4) (by decide)
    have j1 : PyData.tuple [.str "out"] = rowD [.out] := rfl
    have j2 : PyData.tuple [] = rowD [] := rfl
    have j3 : PyData.tuple [.tuple [.int 1, .int 0, .int 2], .bool false] = Pl.d ([1, 0, 2], false) := rfl
    have j4 : PyData.tuple [.tuple [.int 0], .bool false] = Pl.d ([0], false) := rfl
    have l3 : 3 ≤ LIM := by decide
    have e5 := eq_same (k := 2) (d := rowD []) (lk_way l0) (by decide)
    simp [j1, j2, j3, j4, a1, a2, l0, l1, l2, l3, isN, e5]
end PP

namespace PP
open PySem PySem.Spec PyProof.Rows L2
def topS (i : Nat) : Stmt := PySem.Challenge.pw_paperpiles_k29_whole_ways_to_piles.main.body.getD i (.Pass ⟨0, 0, 0, 0⟩)
section
variable {P : Program} {w : World} {K : PySem.W.Frag} {mg : Str → Option Value} {base : Heap}
abbrev s_fetched : Stmt := topS 1
theorem sc_fetched : FnScope ["handling", "many", "place", "low", "high", "half"] ["handling", "many", "place"] (defScope s_fetched) := ⟨rfl, rfl, rfl, by decide +kernel, rfl, by decide +kernel, by decide +kernel⟩
theorem at_fetched  {k : Nat}  (D : DefAt K mg "fetched" s_fetched) : FnAt P w K mg base (k + 1) "fetched" 3 f_fetched := by
  obtain ⟨f, fd, F, hm⟩ := D.ex
  have b : Binds K fd ["handling", "many", "place"] [] := F.binds (ps := ["handling", "many", "place"]) fun _ _ _ _ _ _ us hl => match us, hl with | [_, _, _], _ => rfl
  have nd := sc_fetched.nd
  refine ⟨f, fd, _, fn_ok (k := k) (o := []) F sc_fetched fun cdv A outer s H E hr => ?_, hm, F.kp, b⟩
  have hu := units_of hr
  exact (ess_cons (es_par (i := 3) (j := 4) (eas (ea_cons (ev_div (ev_var 1) ev_int) (ea_cons (ev_sub (ev_var 1) (ev_div (ev_var 1) ev_int)) ea_nil))) rfl nd)
    (ess_cons (es_set 5 (evs (ev_div (ev_var 2) ev_int)) nd)
    (ess_cons (es_if (ets (et_cmp (ec_in hu) (ev_var 0) (ev_tup (ea_cons ev_str (ea_cons ev_str ea_nil))))) (ess_one (es_ret (ev_sub (ev_sub (ev_var 1) ev_int) (ev_var 2)))) ess_nil)
    (ess_cons (es_if (ets (et_cmp (ec_eq hu) (ev_var 0) ev_str)) (ess_one (es_ret (ev_mod (ev_add (ev_var 2) ev_int) (ev_var 1)))) ess_nil)
    (ess_cons (es_if (ets (et_cmp (ec_eq hu) (ev_var 0) ev_str)) (ess_one (es_ret (ev_mod (ev_add (ev_var 2) (ev_var 3)) (ev_var 1)))) ess_nil)
    (ess_cons (es_if (ets (et_cmp (ec_eq hu) (ev_var 0) ev_str)) (ess_one (es_ret (ev_if (et_cmp ec_lt (ev_var 2) (ev_var 4)) (ev_mul ev_int (ev_sub (ev_sub (ev_var 4) ev_int) (ev_var 2))) (ev_add (ev_mul ev_int (ev_sub (ev_sub (ev_var 1) ev_int) (ev_var 2))) ev_int)))) ess_nil)
    (ess_cons (es_if (ets (et_cmp (ec_eq hu) (ev_var 0) ev_str)) (ess_one (es_ret (ev_if (et_cmp ec_lt (ev_var 2) (ev_var 3)) (ev_add (ev_mul ev_int (ev_sub (ev_sub (ev_var 3) ev_int) (ev_var 2))) ev_int) (ev_mul ev_int (ev_sub (ev_sub (ev_var 1) ev_int) (ev_var 2)))))) ess_nil)
    (ess_cons (es_if (ets (et_cmp (ec_eq hu) (ev_var 0) ev_str)) (ess_one (es_ret (ev_if (et_cmp (ec_eq hu) (ev_mod (ev_var 2) ev_int) ev_int) (ev_var 5) (ev_add (ev_var 4) (ev_var 5))))) ess_nil)
    (ess_one (es_ret (ev_if (et_cmp (ec_eq hu) (ev_mod (ev_var 2) ev_int) ev_int) (ev_add (ev_var 3) (ev_var 5)) (ev_var 5))))))))))))
abbrev s_handled : Stmt := topS 3
theorem sc_handled : FnScope ["handling", "pile", "sheets", "turned", "many", "found", "place"] ["handling", "pile"] (defScope s_handled) := ⟨rfl, rfl, rfl, by decide +kernel, rfl, by decide +kernel, by decide +kernel⟩
theorem at_handled  {k : Nat} (b_len : mg "len" = none) (b_tuple : mg "tuple" = none) (b_range : mg "range" = none) (h_fetched : FnAt P w K mg base k "fetched" 3 f_fetched) (D : DefAt K mg "handled" s_handled) : FnAt P w K mg base (k + 1) "handled" 2 f_handled := by
  obtain ⟨f, fd, F, hm⟩ := D.ex
  have b : Binds K fd ["handling", "pile"] [] := F.binds (ps := ["handling", "pile"]) fun _ _ _ _ _ _ us hl => match us, hl with | [_, _], _ => rfl
  have nd := sc_handled.nd
  refine ⟨f, fd, _, fn_ok (k := k) (o := []) F sc_handled fun cdv A outer s H E hr => ?_, hm, F.kp, b⟩
  have hu := units_of hr
  exact (ess_cons (es_bind (evs (ev_var 1)) (eg_tup (w := false) rfl (egs_cons (eg_name 2 nd) (egs_cons (eg_name 3 nd) egs_nil)) (spsCons_len (spsCons_len spsNil_len))))
    (ess_cons (es_set 4 (evs (ev_len (ev_var 2) b_len)) nd)
    (ess_cons (es_set 5 (evs (ev_tuple (EF.ev (ef_comp (ei_range1 (ev_var 4) b_range) (blkOk_by (own := [("place", 6)]) (by rfl)) (fun _ _ _ _ _ => (eg_name 6 nd)) (fun _ _ _ _ _ => ets_nil) (fun _ _ _ _ _ => (ev_ix (ev_var 2) (ev_call h_fetched hr (ea_cons (ev_var 0) (ea_cons (ev_var 4) (ea_cons (ev_var 6) ea_nil))) (aCons_len (aCons_len (aCons_len aNil_len)))))) rfl nd (by decide) spN_len)) b_tuple)) nd)
    (ess_one (es_ret (ev_tup (ea_cons (ev_var 5) (ea_cons (ev_cmp (ec_ne hu) (ev_var 3) (ev_cmp (ec_eq hu) (ev_var 0) ev_str)) ea_nil))))))))
abbrev s_ways_from : Stmt := topS 4
theorem sc_ways_from : FnScope ["handlings", "many", "begin", "found", "layer", "later", "pile", "handling", "new"] ["handlings", "many"] (defScope s_ways_from) := ⟨rfl, rfl, rfl, by decide +kernel, rfl, by decide +kernel, by decide +kernel⟩
theorem at_ways_from  {k : Nat} (b_tuple : mg "tuple" = none) (b_range : mg "range" = none) (h_handled : FnAt P w K mg base k "handled" 2 f_handled) (D : DefAt K mg "ways_from" s_ways_from) : FnAt P w K mg base (k + 1) "ways_from" 2 f_ways_from := by
  obtain ⟨f, fd, F, hm⟩ := D.ex
  have b : Binds K fd ["handlings", "many"] [] := F.binds (ps := ["handlings", "many"]) fun _ _ _ _ _ _ us hl => match us, hl with | [_, _], _ => rfl
  have nd := sc_ways_from.nd
  refine ⟨f, fd, _, fn_ok (k := k) (o := [3]) F sc_ways_from fun cdv A outer s H E hr => ?_, hm, F.kp, b⟩
  have hu := units_of hr
  exact (ess_cons (es_set 2 (evs (ev_tup (ea_cons (ev_tupRg (erg1 (ev_var 1) b_range) rfl b_tuple) (ea_cons ev_bl ea_nil)))) nd)
    (ess_cons (es_parF (i := 3) (j := 4) (ef_ndisp hu (ev_var 2) ev_non) (ev_lst (ea_cons (ev_var 2) ea_nil)) rfl nd)
    (ess_cons (es_while (ets (et_cmp (ec_ne hu) (ev_var 4) (ev_lst ea_nil)))
    (ess_cons (es_setF (o := [3]) 5 (EF.efs (ef_lst ea_nil)) nd)
    (ess_cons (es_forO (o := [5, 3]) (ei_list (ev_var 4)) (eg_name 6 nd)
    (ess_one (es_forO (o := [5, 3]) (ei_tup (ev_var 0)) (eg_name 7 nd)
    (ess_cons (es_set 8 (evsV (ev_call h_handled hr (ea_cons (ev_var 7) (ea_cons (ev_var 6) ea_nil)) (aCons_len (aCons_len aNil_len)))) nd)
    (ess_one (es_if (ets_nnotin 3 hu (evsV (ev_var 8))) (ess_cons (es_nput 3 hu (evsV (ev_tup (ea_cons (ev_var 6) (ea_cons (ev_var 7) ea_nil)))) (evsV (ev_var 8)))
    (ess_one (es_append 5 (evsV (ev_var 8))))) ess_nil))) rfl PassesOwn.never)) rfl PassesOwn.never)
    (ess_one (ES.drop (o1 := [3]) (es_set 4 (evsV (ev_var 5)) nd) (by decide))))) PassesOwn.never)
    (ess_one (es_ret (ev_var 3))))))
abbrev s_way_to : Stmt := topS 5
theorem sc_way_to : FnScope ["handlings", "goal", "found", "way", "here", "handling"] ["handlings", "goal"] (defScope s_way_to) := ⟨rfl, rfl, rfl, by decide +kernel, rfl, by decide +kernel, by decide +kernel⟩
theorem at_way_to  {k : Nat} (b_len : mg "len" = none) (h_ways_from : FnAt P w K mg base k "ways_from" 2 f_ways_from) (D : DefAt K mg "way_to" s_way_to) : FnAt P w K mg base (k + 1) "way_to" 2 f_way_to := by
  obtain ⟨f, fd, F, hm⟩ := D.ex
  have b : Binds K fd ["handlings", "goal"] [] := F.binds (ps := ["handlings", "goal"]) fun _ _ _ _ _ _ us hl => match us, hl with | [_, _], _ => rfl
  have nd := sc_way_to.nd
  refine ⟨f, fd, _, fn_ok (k := k) (o := []) F sc_way_to fun cdv A outer s H E hr => ?_, hm, F.kp, b⟩
  have hu := units_of hr
  exact (ess_cons (es_set 2 (evs (ev_call h_ways_from hr (ea_cons (ev_var 0) (ea_cons (ev_len (ev_ix (ev_var 1) ev_int) b_len) ea_nil)) (aCons_len (aCons_len aNil_len)))) nd)
    (ess_cons (es_if (ets (et_cmp (ec_nnotin hu) (ev_var 1) (ev_var 2))) (ess_one (es_ret ev_non)) ess_nil)
    (ess_cons (es_par (i := 3) (j := 4) (eas (ea_cons (ev_tup ea_nil) (ea_cons (ev_var 1) ea_nil))) rfl nd)
    (ess_cons (es_while (ets (et_notN (ev_nget (ev_var 2) (ev_var 4) hu)))
    (ess_cons (es_bind (evs (ev_nget (ev_var 2) (ev_var 4) hu)) (eg_tup (w := false) rfl (egs_cons (eg_name 4 nd) (egs_cons (eg_name 5 nd) egs_nil)) (spsCons_len (spsCons_len spsNil_len))))
    (ess_one (es_set 3 (evs (ev_tup (ea_cons (ev_var 5) (ea_star (ev_var 3) ea_nil)))) nd))) PassesOwn.never)
    (ess_one (es_ret (ev_var 3)))))))
abbrev s_fewest_handlings : Stmt := topS 6
theorem sc_fewest_handlings : FnScope ["handlings", "goal", "way"] ["handlings", "goal"] (defScope s_fewest_handlings) := ⟨rfl, rfl, rfl, by decide +kernel, rfl, by decide +kernel, by decide +kernel⟩
theorem at_fewest_handlings  {k : Nat} (h_way_to : FnAt P w K mg base k "way_to" 2 f_way_to) (b_len : mg "len" = none) (D : DefAt K mg "fewest_handlings" s_fewest_handlings) : FnAt P w K mg base (k + 1) "fewest_handlings" 2 f_fewest_handlings := by
  obtain ⟨f, fd, F, hm⟩ := D.ex
  have b : Binds K fd ["handlings", "goal"] [] := F.binds (ps := ["handlings", "goal"]) fun _ _ _ _ _ _ us hl => match us, hl with | [_, _], _ => rfl
  have nd := sc_fewest_handlings.nd
  refine ⟨f, fd, _, fn_ok (k := k) (o := []) F sc_fewest_handlings fun cdv A outer s H E hr => ?_, hm, F.kp, b⟩
  have hu := units_of hr
  exact (ess_cons (es_set 2 (evs (ev_call h_way_to hr (ea_cons (ev_var 0) (ea_cons (ev_var 1) ea_nil)) (aCons_len (aCons_len aNil_len)))) nd)
    (ess_one (es_ret (ev_if (et_isN (ev_var 2)) ev_non (ev_len (ev_var 2) b_len)))))
abbrev s_law_draw : Stmt := topS 8
theorem sc_law_draw : FnScope ["tape", "many", "prime", "cell", "found"] ["tape", "many"] (defScope s_law_draw) := ⟨rfl, rfl, rfl, by decide +kernel, rfl, by decide +kernel, by decide +kernel⟩
theorem at_law_draw  {k : Nat} (b_len : mg "len" = none) (b_int : mg "int" = none) (D : DefAt K mg "_law_draw" s_law_draw) : FnAt P w K mg base (k + 1) "_law_draw" 2 f_law_draw := by
  obtain ⟨f, fd, F, hm⟩ := D.ex
  have b : Binds K fd ["tape", "many"] [] := F.binds (ps := ["tape", "many"]) fun _ _ _ _ _ _ us hl => match us, hl with | [_, _], _ => rfl
  have nd := sc_law_draw.nd
  refine ⟨f, fd, _, fn_ok (k := k) (o := []) F sc_law_draw fun cdv A outer s H E hr => ?_, hm, F.kp, b⟩
  have hu := units_of hr
  exact (ess_cons (es_set 2 (evs ev_int) nd)
    (ess_cons (es_if (ets (et_cmp ec_lt (ev_t2 0) (ev_var 1))) (ess_cons (es_set 3 (evs ev_int) nd)
    (ess_cons (es_if (ets (et_cmp ec_gt (ev_len (ev_t0 0) b_len) ev_int)) (ess_one (es_set 3 (evs (ev_ix (ev_t0 0) (ev_mod (ev_int' (ev_t1 0) b_int) (ev_len (ev_t0 0) b_len)))) nd)) ess_nil)
    (ess_cons (es_if (ets (EW.et (ew_or (et_cmp ec_ge (ev_t1 0) (ev_len (ev_t0 0) b_len)) (ew_or1 (et_cmp ec_lt (ev_var 3) (ev_pow ev_int ev_int)))))) (ess_cons (es_set 3 (evs (ev_mod (ev_int' (ev_add (ev_var 3) (ev_mul ev_int (ev_t1 0))) b_int) (ev_var 2))) nd)
    (ess_cons (es_set 3 (evs (ev_mod (ev_int' (ev_add (ev_add (ev_mul (ev_var 3) (ev_var 3)) (ev_mul ev_int (ev_var 3))) ev_int) b_int) (ev_var 2))) nd)
    (ess_one (es_set 3 (evs (ev_mod (ev_int' (ev_add (ev_mul (ev_var 3) (ev_var 3)) ev_int) b_int) (ev_var 2))) nd)))) ess_nil)
    (ess_cons (es_t1 0 (evs (ev_add (ev_t1 0) ev_int)))
    (ess_one (es_t2 0 (evs (ev_var 3)))))))) ess_nil)
    (ess_cons (es_set 4 (evs (ev_mod (ev_int' (ev_t2 0) b_int) (ev_var 1))) nd)
    (ess_cons (es_t2 0 (evs (ev_div (ev_t2 0) (ev_var 1))))
    (ess_one (es_ret (ev_var 4)))))))
abbrev s_law_like : Stmt := topS 9
theorem sc_law_like : FnScope ["one", "two", "k"] ["one", "two"] (defScope s_law_like) := ⟨rfl, rfl, rfl, by decide +kernel, rfl, by decide +kernel, by decide +kernel⟩
theorem at_law_like  {k : Nat} (b_isinstance : mg "isinstance" = none) (b_list : mg "list" = none) (b_tuple : mg "tuple" = none) (b_len : mg "len" = none) (b_range : mg "range" = none) (b_bool : mg "bool" = none) (D : DefAt K mg "_law_like" s_law_like) : ∀ d, FnAt P w K mg base (k + d) "_law_like" 2 (f_law_like d) := by
  obtain ⟨f, fd, F, hm⟩ := D.ex
  have b : Binds K fd ["one", "two"] [] := F.binds (ps := ["one", "two"]) fun _ _ _ _ _ _ us hl => match us, hl with | [_, _], _ => rfl
  have nd := sc_law_like.nd
  intro d
  induction d with
  | zero => exact fnAt_none F b hm rfl
  | succ d ih =>
    have h_law_like := ih
    refine ⟨f, fd, _, fn_ok (k := k + d) (o := []) F sc_law_like fun cdv A outer s H E hr => ?_, hm, F.kp, b⟩
    have hu := units_of hr
    exact (ess_cons (es_if (ets (et_val (ev_isi2 .list .tuple (ev_var 0) b_isinstance b_list b_tuple (by decide +kernel) (by decide +kernel)))) (ess_cons (es_if (ets (EW.et (ew_or (et_cmp (ec_ne hu) (ev_isi .list (ev_var 0) b_isinstance b_list (by decide +kernel)) (ev_isi .list (ev_var 1) b_isinstance b_list (by decide +kernel))) (ew_or1 (et_cmp (ec_ne hu) (ev_isi .tuple (ev_var 0) b_isinstance b_tuple (by decide +kernel)) (ev_isi .tuple (ev_var 1) b_isinstance b_tuple (by decide +kernel))))))) (ess_one (es_ret ev_bl)) ess_nil)
    (ess_cons (es_if (ets (et_cmp (ec_ne hu) (ev_len (ev_var 0) b_len) (ev_len (ev_var 1) b_len))) (ess_one (es_ret ev_bl)) ess_nil)
    (ess_one (es_ret (ev_cmp (ec_eq hu) (EF.ev (ef_comp (ei_range1 (ev_len (ev_var 0) b_len) b_range) (blkOk_by (own := [("k", 2)]) (by rfl)) (fun _ _ _ _ _ => (eg_name 2 nd)) (fun _ _ _ _ _ => (ets_one (et_not (et_val (ev_call h_law_like hr (ea_cons (ev_ix (ev_var 0) (ev_var 2)) (ea_cons (ev_ix (ev_var 1) (ev_var 2)) ea_nil)) (aCons_len (aCons_len aNil_len))))))) (fun _ _ _ _ _ => (ev_var 2)) rfl nd (by decide) spN_len)) (ev_lst ea_nil)))))) ess_nil)
    (ess_cons (es_if (ets (et_val (ev_isi2 .list .tuple (ev_var 1) b_isinstance b_list b_tuple (by decide +kernel) (by decide +kernel)))) (ess_one (es_ret ev_bl)) ess_nil)
    (ess_one (es_ret (ev_and (ev_cmp (ec_eq hu) (ev_isi .bool (ev_var 0) b_isinstance b_bool (by decide +kernel)) (ev_isi .bool (ev_var 1) b_isinstance b_bool (by decide +kernel))) (ev_one (ev_cmp (ec_eq hu) (ev_var 0) (ev_var 1))))))))
abbrev s_law_names : Stmt := topS 10
theorem sc_law_names : FnScope [] [] (defScope s_law_names) := ⟨rfl, rfl, rfl, by decide +kernel, rfl, by decide +kernel, by decide +kernel⟩
theorem at_law_names  {k : Nat}  (D : DefAt K mg "_law_names" s_law_names) : FnAt P w K mg base (k + 1) "_law_names" 0 f_law_names := by
  obtain ⟨f, fd, F, hm⟩ := D.ex
  have b : Binds K fd [] [] := F.binds (ps := []) fun _ _ _ _ _ _ us hl => match us, hl with | [], _ => rfl
  have nd := sc_law_names.nd
  refine ⟨f, fd, _, fn_ok (k := k) (o := []) F sc_law_names fun cdv A outer s H E hr => ?_, hm, F.kp, b⟩
  have hu := units_of hr
  exact (ess_one (es_ret (ev_lst (ea_cons ev_str (ea_cons ev_str (ea_cons ev_str (ea_cons ev_str (ea_cons ev_str (ea_cons ev_str (ea_cons ev_str (ea_cons ev_str ea_nil)))))))))))
abbrev s_law_woven : Stmt := topS 11
theorem sc_law_woven : FnScope ["first", "second", "found", "at"] ["first", "second"] (defScope s_law_woven) := ⟨rfl, rfl, rfl, by decide +kernel, rfl, by decide +kernel, by decide +kernel⟩
theorem at_law_woven  {k : Nat} (b_range : mg "range" = none) (b_len : mg "len" = none) (D : DefAt K mg "_law_woven" s_law_woven) : FnAt P w K mg base (k + 1) "_law_woven" 2 f_law_woven := by
  obtain ⟨f, fd, F, hm⟩ := D.ex
  have b : Binds K fd ["first", "second"] [] := F.binds (ps := ["first", "second"]) fun _ _ _ _ _ _ us hl => match us, hl with | [_, _], _ => rfl
  have nd := sc_law_woven.nd
  refine ⟨f, fd, _, fn_ok (k := k) (o := [2]) F sc_law_woven fun cdv A outer s H E hr => ?_, hm, F.kp, b⟩
  have hu := units_of hr
  exact (ess_cons (es_setF (o := []) 2 (EF.efs (ef_lst ea_nil)) nd)
    (ess_cons (es_forO (o := [2]) (ei_range1 (ev_len (ev_var 0) b_len) b_range) (eg_name 3 nd)
    (ess_cons (es_append 2 (evsV (ev_ix (ev_var 0) (ev_var 3))))
    (ess_one (es_extend 2 (evsV (ev_slice (ev_var 1) (eo_some (ev_var 3)) (eo_some (ev_add (ev_var 3) ev_int))))))) rfl PassesOwn.never)
    (ess_one (es_ret (ev_var 2)))))
abbrev s_law_handled : Stmt := topS 12
theorem sc_law_handled : FnScope ["one", "pile", "many", "left", "right"] ["one", "pile"] (defScope s_law_handled) := ⟨rfl, rfl, rfl, by decide +kernel, rfl, by decide +kernel, by decide +kernel⟩
theorem at_law_handled  {k : Nat} (b_len : mg "len" = none) (h_law_woven : FnAt P w K mg base k "_law_woven" 2 f_law_woven) (D : DefAt K mg "_law_handled" s_law_handled) : FnAt P w K mg base (k + 1) "_law_handled" 2 f_law_handled := by
  obtain ⟨f, fd, F, hm⟩ := D.ex
  have b : Binds K fd ["one", "pile"] [] := F.binds (ps := ["one", "pile"]) fun _ _ _ _ _ _ us hl => match us, hl with | [_, _], _ => rfl
  have nd := sc_law_handled.nd
  refine ⟨f, fd, _, fn_ok (k := k) (o := []) F sc_law_handled fun cdv A outer s H E hr => ?_, hm, F.kp, b⟩
  have hu := units_of hr
  exact (ess_cons (es_set 2 (evs (ev_len (ev_var 1) b_len)) nd)
    (ess_cons (es_if (ets (et_cmp (ec_in hu) (ev_var 0) (ev_tup (ea_cons ev_str (ea_cons ev_str ea_nil))))) (ess_one (es_ret (ev_rev (ev_var 1)))) ess_nil)
    (ess_cons (es_if (ets (et_cmp (ec_eq hu) (ev_var 0) ev_str)) (ess_one (es_ret (ev_add (ev_slice (ev_var 1) (eo_some ev_int) eo_none) (ev_slice (ev_var 1) eo_none (eo_some ev_int))))) ess_nil)
    (ess_cons (es_if (ets (et_cmp (ec_eq hu) (ev_var 0) ev_str)) (ess_one (es_ret (ev_add (ev_slice (ev_var 1) (eo_some (ev_div (ev_var 2) ev_int)) eo_none) (ev_slice (ev_var 1) eo_none (eo_some (ev_div (ev_var 2) ev_int)))))) ess_nil)
    (ess_cons (es_if (ets (et_cmp (ec_in hu) (ev_var 0) (ev_tup (ea_cons ev_str (ea_cons ev_str ea_nil))))) (ess_cons (es_par (i := 3) (j := 4) (eas (ea_cons (ev_rev (EF.ev (ef_slice3 (ev_var 1) eo_none eo_none (eo_some ev_int)))) (ea_cons (ev_rev (EF.ev (ef_slice3 (ev_var 1) (eo_some ev_int) eo_none (eo_some ev_int)))) ea_nil))) rfl nd)
    (ess_one (es_ret (ev_if (et_cmp (ec_eq hu) (ev_var 0) ev_str) (ev_add (ev_var 3) (ev_var 4)) (ev_add (ev_var 4) (ev_var 3)))))) ess_nil)
    (ess_cons (es_if (ets (et_cmp (ec_eq hu) (ev_var 0) ev_str)) (ess_one (es_ret (ev_call h_law_woven hr (ea_cons (ev_slice (ev_var 1) eo_none (eo_some (ev_div (ev_add (ev_var 2) ev_int) ev_int))) (ea_cons (ev_slice (ev_var 1) (eo_some (ev_div (ev_add (ev_var 2) ev_int) ev_int)) eo_none) ea_nil)) (aCons_len (aCons_len aNil_len))))) ess_nil)
    (ess_one (es_ret (ev_call h_law_woven hr (ea_cons (ev_slice (ev_var 1) (eo_some (ev_div (ev_var 2) ev_int)) eo_none) (ea_cons (ev_slice (ev_var 1) eo_none (eo_some (ev_div (ev_var 2) ev_int))) ea_nil)) (aCons_len (aCons_len aNil_len)))))))))))
abbrev s_law_laid : Stmt := topS 13
theorem sc_law_laid : FnScope ["row", "many", "pile", "one"] ["row", "many"] (defScope s_law_laid) := ⟨rfl, rfl, rfl, by decide +kernel, rfl, by decide +kernel, by decide +kernel⟩
theorem at_law_laid  {k : Nat} (b_list : mg "list" = none) (b_range : mg "range" = none) (h_law_handled : FnAt P w K mg base k "_law_handled" 2 f_law_handled) (D : DefAt K mg "_law_laid" s_law_laid) : FnAt P w K mg base (k + 1) "_law_laid" 2 f_law_laid := by
  obtain ⟨f, fd, F, hm⟩ := D.ex
  have b : Binds K fd ["row", "many"] [] := F.binds (ps := ["row", "many"]) fun _ _ _ _ _ _ us hl => match us, hl with | [_, _], _ => rfl
  have nd := sc_law_laid.nd
  refine ⟨f, fd, _, fn_ok (k := k) (o := []) F sc_law_laid fun cdv A outer s H E hr => ?_, hm, F.kp, b⟩
  have hu := units_of hr
  exact (ess_cons (es_set 2 (evs (EF.ev (ef_listRg (erg1 (ev_var 1) b_range) rfl b_list))) nd)
    (ess_cons (es_for (ei_tup (ev_var 0)) (eg_name 3 nd)
    (ess_one (es_set 2 (evs (ev_call h_law_handled hr (ea_cons (ev_var 3) (ea_cons (ev_var 2) ea_nil)) (aCons_len (aCons_len aNil_len)))) nd)) rfl PassesOwn.never)
    (ess_one (es_ret (ev_var 2)))))
abbrev s_law_turns : Stmt := topS 14
theorem sc_law_turns : FnScope ["row", "one"] ["row"] (defScope s_law_turns) := ⟨rfl, rfl, rfl, by decide +kernel, rfl, by decide +kernel, by decide +kernel⟩
theorem at_law_turns  {k : Nat} (b_int : mg "int" = none) (b_len : mg "len" = none) (D : DefAt K mg "_law_turns" s_law_turns) : FnAt P w K mg base (k + 1) "_law_turns" 1 f_law_turns := by
  obtain ⟨f, fd, F, hm⟩ := D.ex
  have b : Binds K fd ["row"] [] := F.binds (ps := ["row"]) fun _ _ _ _ _ _ us hl => match us, hl with | [_], _ => rfl
  have nd := sc_law_turns.nd
  refine ⟨f, fd, _, fn_ok (k := k) (o := []) F sc_law_turns fun cdv A outer s H E hr => ?_, hm, F.kp, b⟩
  have hu := units_of hr
  exact (ess_one (es_ret (ev_cmp (ec_eq hu) (ev_mod (ev_int' (ev_len (EF.ev (ef_comp (ei_tup (ev_var 0)) (blkOk_by (own := [("one", 1)]) (by rfl)) (fun _ _ _ _ _ => (eg_name 1 nd)) (fun _ _ _ _ _ => (ets_one (et_cmp (ec_eq hu) (ev_var 1) ev_str))) (fun _ _ _ _ _ => (ev_var 1)) rfl nd (by decide) spN_len)) b_len) b_int) ev_int) ev_int)))
abbrev s_law_reached : Stmt := topS 15
theorem sc_law_reached : FnScope ["handlings", "many", "found", "layer", "later", "sheets", "turned", "one", "new"] ["handlings", "many"] (defScope s_law_reached) := ⟨rfl, rfl, rfl, by decide +kernel, rfl, by decide +kernel, by decide +kernel⟩
theorem at_law_reached  {k : Nat} (b_tuple : mg "tuple" = none) (b_range : mg "range" = none) (b_list : mg "list" = none) (h_law_handled : FnAt P w K mg base k "_law_handled" 2 f_law_handled) (D : DefAt K mg "_law_reached" s_law_reached) : FnAt P w K mg base (k + 1) "_law_reached" 2 f_law_reached := by
  obtain ⟨f, fd, F, hm⟩ := D.ex
  have b : Binds K fd ["handlings", "many"] [] := F.binds (ps := ["handlings", "many"]) fun _ _ _ _ _ _ us hl => match us, hl with | [_, _], _ => rfl
  have nd := sc_law_reached.nd
  refine ⟨f, fd, _, fn_ok (k := k) (o := [2]) F sc_law_reached fun cdv A outer s H E hr => ?_, hm, F.kp, b⟩
  have hu := units_of hr
  exact (ess_cons (es_parF (i := 2) (j := 3) (ef_ndisp hu (ev_tup (ea_cons (ev_tupRg (erg1 (ev_var 1) b_range) rfl b_tuple) (ea_cons ev_bl ea_nil))) ev_int) (ev_lst (ea_cons (ev_tup (ea_cons (ev_tupRg (erg1 (ev_var 1) b_range) rfl b_tuple) (ea_cons ev_bl ea_nil))) ea_nil)) rfl nd)
    (ess_cons (es_while (ets (et_cmp (ec_ne hu) (ev_var 3) (ev_lst ea_nil)))
    (ess_cons (es_setF (o := [2]) 4 (EF.efs (ef_lst ea_nil)) nd)
    (ess_cons (es_forO (o := [4, 2]) (ei_list (ev_var 3)) (eg_tup (w := false) rfl (egs_cons (eg_name 5 nd) (egs_cons (eg_name 6 nd) egs_nil)) (spsCons_len (spsCons_len spsNil_len)))
    (ess_one (es_forO (o := [4, 2]) (ei_tup (ev_var 0)) (eg_name 7 nd)
    (ess_cons (es_set 8 (evsV (ev_tup (ea_cons (ev_tuple (ev_call h_law_handled hr (ea_cons (ev_var 7) (ea_cons (EF.ev (ef_list (ev_var 5) b_list)) ea_nil)) (aCons_len (aCons_len aNil_len))) b_tuple) (ea_cons (ev_cmp (ec_ne hu) (ev_var 6) (ev_cmp (ec_eq hu) (ev_var 7) ev_str)) ea_nil)))) nd)
    (ess_one (es_if (ets_nnotin 2 hu (evsV (ev_var 8))) (ess_cons (es_nput 2 hu (evsB (ev_add (ev_nget (ev_var 2) (ev_tup (ea_cons (ev_var 5) (ea_cons (ev_var 6) ea_nil))) hu) ev_int)) (evsV (ev_var 8)))
    (ess_one (es_append 4 (evsV (ev_var 8))))) ess_nil))) rfl PassesOwn.never)) rfl PassesOwn.never)
    (ess_one (ES.drop (o1 := [2]) (es_set 3 (evsV (ev_var 4)) nd) (by decide))))) PassesOwn.never)
    (ess_one (es_ret (ev_var 2)))))
abbrev s_law : Stmt := topS 16
theorem sc_law : FnScope ["script", "tape", "turn", "handlings", "many", "due", "goal", "ask", "told", "way", "rest", "one"] ["script"] (defScope s_law) := ⟨rfl, rfl, rfl, by decide +kernel, rfl, by decide +kernel, by decide +kernel⟩
theorem ok_law {k : Nat} {f : Addr} {fd : FuncData} (b_range : mg "range" = none) (b_tuple : mg "tuple" = none) (h_law_names : FnAt P w K mg base k "_law_names" 0 f_law_names) (h_law_draw : FnAt P w K mg base k "_law_draw" 2 f_law_draw) (h_law_reached : FnAt P w K mg base k "_law_reached" 2 f_law_reached) (h_way_to : FnAt P w K mg base k "way_to" 2 f_way_to) (h_fewest_handlings : FnAt P w K mg base k "fewest_handlings" 2 f_fewest_handlings) (h_law_like : FnAt P w K mg base k "_law_like" 2 (f_law_like 8)) (b_isinstance : mg "isinstance" = none) (b_len : mg "len" = none) (h_law_turns : FnAt P w K mg base k "_law_turns" 1 f_law_turns) (h_law_laid : FnAt P w K mg base k "_law_laid" 2 f_law_laid) (b_list : mg "list" = none) (hm : ∀ ns : List Int, ns.length ≤ 63 → ∃ t', sem_law (lawE 12 1) ⟨ns, 0, 0⟩ = some (.rt (.bool true) t')) (F : Fun K "law" "law" s_law f fd) : FnOk P w K mg base CX0 (k + 1) f fd ["script"] (spLaw K) := by
  have nd := sc_law.nd
  refine law_ok (i := 1) (o := []) (body := sem_law) F sc_law rfl b_list (by decide) (by decide) rfl rfl (fun cdv A outer s H E => ⟨by first | exact .inl rfl | exact .inr (.inl rfl) | exact .inr (.inr rfl), rfl, by first | exact .inl rfl | exact .inr rfl, fun _ => rfl⟩) (fun cdv A outer s H E hr => ?_) hm
  have hu := units_of hr
  exact (ess_cons (es_for (ei_range1 ev_int b_range) (eg_name 2 nd)
    (ess_cons (es_set 3 (evs (ev_tuple (EF.ev (ef_comp (ei_list (ev_call0 h_law_names hr)) (blkOk_by (own := [("one", 11)]) (by rfl)) (fun _ _ _ _ _ => (eg_name 11 nd)) (fun _ _ _ _ _ => (ets_one (et_cmp (ec_eq hu) (ev_call h_law_draw hr (ea_cons (ev_var 1) (ea_cons ev_int ea_nil)) (aCons_len (aCons_len aNil_len))) ev_int))) (fun _ _ _ _ _ => (ev_var 11)) rfl nd (by decide) spN_len)) b_tuple)) nd)
    (ess_cons (es_set 4 (evs (ev_add ev_int (ev_call h_law_draw hr (ea_cons (ev_var 1) (ea_cons ev_int ea_nil)) (aCons_len (aCons_len aNil_len))))) nd)
    (ess_cons (es_par (i := 5) (j := 6) (eas (ea_cons (ev_call h_law_reached hr (ea_cons (ev_var 3) (ea_cons (ev_var 4) ea_nil)) (aCons_len (aCons_len aNil_len))) (ea_cons (ev_tup (ea_cons (ev_tupRg (erg1 (ev_var 4) b_range) rfl b_tuple) (ea_cons ev_bl ea_nil))) ea_nil))) rfl nd)
    (ess_one (es_for (ei_range1 ev_int b_range) (eg_name 7 nd)
    (ESs.lose (o1 := [10]) (ess_cons (es_par (i := 8) (j := 9) (eas (ea_cons (ev_call h_fewest_handlings hr (ea_cons (ev_var 3) (ea_cons (ev_var 6) ea_nil)) (aCons_len (aCons_len aNil_len))) (ea_cons (ev_call h_way_to hr (ea_cons (ev_var 3) (ea_cons (ev_var 6) ea_nil)) (aCons_len (aCons_len aNil_len))) ea_nil))) rfl nd)
    (ess_cons (es_if (ets (EW.et (ew_or (et_not (et_val (ev_call h_law_like hr (ea_cons (ev_var 8) (ea_cons (ev_nget1 (ev_var 5) (ev_var 6) hu) ea_nil)) (aCons_len (aCons_len aNil_len))))) (ew_or1 (et_cmp (ec_ne hu) (ev_isN (ev_var 9)) (ev_isN (ev_var 8))))))) (ess_one (es_ret ev_bl)) ess_nil)
    (ess_cons (es_if (ets (et_notN (ev_var 9))) (ess_cons (es_if (ets (EW.et (ew_or (et_not (et_val (ev_isi .tuple (ev_var 9) b_isinstance b_tuple (by decide +kernel)))) (ew_or1 (et_cmp (ec_ne hu) (ev_len (ev_var 9) b_len) (ev_var 8)))))) (ess_one (es_ret ev_bl)) ess_nil)
    (ess_cons (es_if (ets (et_cmp (ec_ne hu) (EF.ev (ef_comp (ei_tup (ev_var 9)) (blkOk_by (own := [("one", 11)]) (by rfl)) (fun _ _ _ _ _ => (eg_name 11 nd)) (fun _ _ _ _ _ => (ets_one (et_cmp (ec_notin hu) (ev_var 11) (ev_var 3)))) (fun _ _ _ _ _ => (ev_var 11)) rfl nd (by decide) spN_len)) (ev_lst ea_nil))) (ess_one (es_ret ev_bl)) ess_nil)
    (ess_one (es_if (ets (et_cmp (ec_ne hu) (ev_tup (ea_cons (ev_tuple (ev_call h_law_laid hr (ea_cons (ev_var 9) (ea_cons (ev_var 4) ea_nil)) (aCons_len (aCons_len aNil_len))) b_tuple) (ea_cons (ev_call h_law_turns hr (ea_cons (ev_var 9) ea_nil) (aCons_len aNil_len)) ea_nil))) (ev_var 6))) (ess_one (es_ret ev_bl)) ess_nil)))) ess_nil)
    (ess_cons (es_parG (i := 6) (j := 10) (ev_tup (ea_cons (ev_tup ea_nil) (ea_cons (ev_cmp (ec_eq hu) (ev_call h_law_draw hr (ea_cons (ev_var 1) (ea_cons ev_int ea_nil)) (aCons_len (aCons_len aNil_len))) ev_int) ea_nil))) (ef_listRg (erg1 (ev_var 4) b_range) rfl b_list) rfl nd)
    (ess_cons (es_while (ets (et_cmp (ec_ne hu) (ev_var 10) (ev_lst ea_nil)))
    (ess_one (es_setM 6 (evm_tup (eam_cons (evm_add (evm_of (evsV (ev_ix (ev_var 6) ev_int))) (evm_tup (eam_cons (evm_pop 10 (evsB (ev_call h_law_draw hr (ea_cons (ev_var 1) (ea_cons (ev_len (ev_var 10) b_len) ea_nil)) (aCons_len (aCons_len aNil_len))))) eam_nil))) (eam_cons (evm_of (evsV (ev_ix (ev_var 6) ev_int))) eam_nil))) nd)) PassesOwn.never)
    (ess_one (es_if (ets (et_cmp (ec_eq hu) (ev_call h_law_draw hr (ea_cons (ev_var 1) (ea_cons ev_int ea_nil)) (aCons_len (aCons_len aNil_len))) ev_int)) (ess_one (es_set 6 (evsV (ev_ix (EF.ev (ef_nlist (ev_var 5) rfl b_list)) (ev_call h_law_draw hr (ea_cons (ev_var 1) (ea_cons (ev_lenN (ev_var 5) b_len) ea_nil)) (aCons_len (aCons_len aNil_len))))) nd)) ess_nil))))))) (by decide)) rfl PassesOwn.never))))) rfl PassesOwn.never)
    (ess_one (es_ret (ev_and (ev_isN (ev_call h_fewest_handlings hr (ea_cons (ev_tup (ea_cons ev_str ea_nil)) (ea_cons (ev_tup (ea_cons (ev_tup (ea_cons ev_int (ea_cons ev_int (ea_cons ev_int ea_nil)))) (ea_cons ev_bl ea_nil))) ea_nil)) (aCons_len (aCons_len aNil_len)))) (ev_one (ev_cmp (ec_eq hu) (ev_call h_way_to hr (ea_cons (ev_tup ea_nil) (ea_cons (ev_tup (ea_cons (ev_tup (ea_cons ev_int ea_nil)) (ea_cons ev_bl ea_nil))) ea_nil)) (aCons_len (aCons_len aNil_len))) (ev_tup ea_nil)))))))
theorem law_all {f : Addr} {fd : FuncData} (b_len : mg "len" = none) (b_tuple : mg "tuple" = none) (b_range : mg "range" = none) (b_int : mg "int" = none) (b_isinstance : mg "isinstance" = none) (b_list : mg "list" = none) (b_bool : mg "bool" = none) (D_fetched : DefAt K mg "fetched" s_fetched) (D_handled : DefAt K mg "handled" s_handled) (D_ways_from : DefAt K mg "ways_from" s_ways_from) (D_way_to : DefAt K mg "way_to" s_way_to) (D_fewest_handlings : DefAt K mg "fewest_handlings" s_fewest_handlings) (D_law_draw : DefAt K mg "_law_draw" s_law_draw) (D_law_like : DefAt K mg "_law_like" s_law_like) (D_law_names : DefAt K mg "_law_names" s_law_names) (D_law_woven : DefAt K mg "_law_woven" s_law_woven) (D_law_handled : DefAt K mg "_law_handled" s_law_handled) (D_law_laid : DefAt K mg "_law_laid" s_law_laid) (D_law_turns : DefAt K mg "_law_turns" s_law_turns) (D_law_reached : DefAt K mg "_law_reached" s_law_reached) (hm : ∀ ns : List Int, ns.length ≤ 63 → ∃ t', sem_law (lawE 12 1) ⟨ns, 0, 0⟩ = some (.rt (.bool true) t')) (F : Fun K "law" "law" s_law f fd) : FnOk P w K mg base CX0 10 f fd ["script"] (spLaw K) := by
  have A_fetched : FnAt P w K mg base 1 "fetched" 3 f_fetched := at_fetched (k := 0)  D_fetched
  have A_law_draw : FnAt P w K mg base 1 "_law_draw" 2 f_law_draw := at_law_draw (k := 0) b_len b_int D_law_draw
  have A_law_names : FnAt P w K mg base 1 "_law_names" 0 f_law_names := at_law_names (k := 0)  D_law_names
  have A_law_woven : FnAt P w K mg base 1 "_law_woven" 2 f_law_woven := at_law_woven (k := 0) b_range b_len D_law_woven
  have A_law_turns : FnAt P w K mg base 1 "_law_turns" 1 f_law_turns := at_law_turns (k := 0) b_int b_len D_law_turns
  have A_handled : FnAt P w K mg base 2 "handled" 2 f_handled := at_handled (k := 1) b_len b_tuple b_range (A_fetched.mono (by decide)) D_handled
  have A_law_handled : FnAt P w K mg base 2 "_law_handled" 2 f_law_handled := at_law_handled (k := 1) b_len (A_law_woven.mono (by decide)) D_law_handled
  have A_ways_from : FnAt P w K mg base 3 "ways_from" 2 f_ways_from := at_ways_from (k := 2) b_tuple b_range (A_handled.mono (by decide)) D_ways_from
  have A_law_laid : FnAt P w K mg base 3 "_law_laid" 2 f_law_laid := at_law_laid (k := 2) b_list b_range (A_law_handled.mono (by decide)) D_law_laid
  have A_law_reached : FnAt P w K mg base 3 "_law_reached" 2 f_law_reached := at_law_reached (k := 2) b_tuple b_range b_list (A_law_handled.mono (by decide)) D_law_reached
  have A_way_to : FnAt P w K mg base 4 "way_to" 2 f_way_to := at_way_to (k := 3) b_len (A_ways_from.mono (by decide)) D_way_to
  have A_fewest_handlings : FnAt P w K mg base 5 "fewest_handlings" 2 f_fewest_handlings := at_fewest_handlings (k := 4) (A_way_to.mono (by decide)) b_len D_fewest_handlings
  have A_law_like : FnAt P w K mg base 8 "_law_like" 2 (f_law_like 8) := at_law_like (k := 0) b_isinstance b_list b_tuple b_len b_range b_bool D_law_like 8
  exact ok_law (k := 9) b_range b_tuple (A_law_names.mono (by decide)) (A_law_draw.mono (by decide)) (A_law_reached.mono (by decide)) (A_way_to.mono (by decide)) (A_fewest_handlings.mono (by decide)) (A_law_like.mono (by decide)) b_isinstance b_len (A_law_turns.mono (by decide)) (A_law_laid.mono (by decide)) b_list hm F
theorem law_mk {l : PySem.W.OpenLaw} {h : Heap} {fa f : Addr} (X : K.In h) (G : h.Ns mainGlobals mg) (hfa : mg "law" = some (.ref fa)) {od an : Option Addr} {sl : Array (Option Value)} {oc kV dc pm cd ct : Value}
    (a2 : PySem.W.nsIn K mainGlobals "law" = some (some (.ref f))) (l2 : K.lookup f = some ⟨oc, od, .func (PySem.W.fnOf "law" "law" (defArgs s_law) (defBody s_law) (defScope s_law) .none kV dc pm an cd ct), sl⟩) (c2 : PySem.W.codeIn K cd "law" = true) (k2 : PySem.W.keepIn K (.ref f) = true)
    (b_len : mg "len" = none) (b_tuple : mg "tuple" = none) (b_range : mg "range" = none) (b_int : mg "int" = none) (b_isinstance : mg "isinstance" = none) (b_list : mg "list" = none) (b_bool : mg "bool" = none) (D_fetched : DefAt K mg "fetched" s_fetched) (D_handled : DefAt K mg "handled" s_handled) (D_ways_from : DefAt K mg "ways_from" s_ways_from) (D_way_to : DefAt K mg "way_to" s_way_to) (D_fewest_handlings : DefAt K mg "fewest_handlings" s_fewest_handlings) (D_law_draw : DefAt K mg "_law_draw" s_law_draw) (D_law_like : DefAt K mg "_law_like" s_law_like) (D_law_names : DefAt K mg "_law_names" s_law_names) (D_law_woven : DefAt K mg "_law_woven" s_law_woven) (D_law_handled : DefAt K mg "_law_handled" s_law_handled) (D_law_laid : DefAt K mg "_law_laid" s_law_laid) (D_law_turns : DefAt K mg "_law_turns" s_law_turns) (D_law_reached : DefAt K mg "_law_reached" s_law_reached) (hm : ∀ ns : List Int, ns.length ≤ 63 → ∃ t', sem_law (lawE 12 1) ⟨ns, 0, 0⟩ = some (.rt (.bool true) t')) :
    ∃ fd : FuncData, (∀ (s : Shared) (v : Value), BindsTo s fd ⟨[v], []⟩ [("script", v)]) ∧ ∀ base : Heap, K.In base → base.Ns mainGlobals mg → FnOk l.prog w K mg base CX0 10 fa fd ["script"] (spLaw K) := by
  have e := hfa.symm.trans (PySem.W.mg_of X G a2)
  cases e
  exact ⟨PySem.W.fnOf "law" "law" (defArgs s_law) (defBody s_law) (defScope s_law) .none kV dc pm an cd ct, fun s v => .of_eq rfl, fun base _ _ => law_all b_len b_tuple b_range b_int b_isinstance b_list b_bool D_fetched D_handled D_ways_from D_way_to D_fewest_handlings D_law_draw D_law_like D_law_names D_law_woven D_law_handled D_law_laid D_law_turns D_law_reached hm (fun_mk l2 c2 k2)⟩
end
end PP

open PySem PySem.W PyProof.Rows
set_option maxHeartbeats 0 in
theorem PySem.Challenge.cw_paperpiles_k29_whole_ways_to_piles_holds : PySem.Challenge.rw_paperpiles_k29_whole_ways_to_piles.Holds := by
  w_on; o_law; k_head; (case hw => w_witness2)
  k_fill
  refine L2.walk_of (l := PySem.Challenge.rw_paperpiles_k29_whole_ways_to_piles) (n := 63) (k := 10) (x := "script") (CX := fun _ => L2.CX0) (sp := fun w => PP.spLaw _) rfl (by decide) rfl ⟨rfl, by decide, by decide⟩ (fun w h Y => PySem.W.kIn_of Y) ?F (fun _ _ a ns hl _ hS => ⟨a, ns, rfl, hS, hl, fun _ => rfl⟩) (fun _ _ _ _ _ h => h)
  case F =>
    intro w mg fa h KX G hmg
    refine' PP.law_mk KX G hmg ?a_law ?l_law ?c_law ?k_law (PySem.W.mg_none_of KX G ?b_len) (PySem.W.mg_none_of KX G ?b_tuple) (PySem.W.mg_none_of KX G ?b_range) (PySem.W.mg_none_of KX G ?b_int) (PySem.W.mg_none_of KX G ?b_isinstance) (PySem.W.mg_none_of KX G ?b_list) (PySem.W.mg_none_of KX G ?b_bool) (PP.defAt_mk KX G ?a_fetched ?l_fetched ?c_fetched ?k_fetched) (PP.defAt_mk KX G ?a_handled ?l_handled ?c_handled ?k_handled) (PP.defAt_mk KX G ?a_ways_from ?l_ways_from ?c_ways_from ?k_ways_from) (PP.defAt_mk KX G ?a_way_to ?l_way_to ?c_way_to ?k_way_to) (PP.defAt_mk KX G ?a_fewest_handlings ?l_fewest_handlings ?c_fewest_handlings ?k_fewest_handlings) (PP.defAt_mk KX G ?a_law_draw ?l_law_draw ?c_law_draw ?k_law_draw) (PP.defAt_mk KX G ?a_law_like ?l_law_like ?c_law_like ?k_law_like) (PP.defAt_mk KX G ?a_law_names ?l_law_names ?c_law_names ?k_law_names) (PP.defAt_mk KX G ?a_law_woven ?l_law_woven ?c_law_woven ?k_law_woven) (PP.defAt_mk KX G ?a_law_handled ?l_law_handled ?c_law_handled ?k_law_handled) (PP.defAt_mk KX G ?a_law_laid ?l_law_laid ?c_law_laid ?k_law_laid) (PP.defAt_mk KX G ?a_law_turns ?l_law_turns ?c_law_turns ?k_law_turns) (PP.defAt_mk KX G ?a_law_reached ?l_law_reached ?c_law_reached ?k_law_reached) PP.law_holds
    (case a_law => k_is)
    (case l_law => k_is)
    (case c_law => k_is)
    (case k_law => k_is)
    (case b_len => k_is)
    (case b_tuple => k_is)
    (case b_range => k_is)
    (case b_int => k_is)
    (case b_isinstance => k_is)
    (case b_list => k_is)
    (case b_bool => k_is)
    (case a_fetched => k_is)
    (case l_fetched => k_is)
    (case c_fetched => k_is)
    (case k_fetched => k_is)
    (case a_handled => k_is)
    (case l_handled => k_is)
    (case c_handled => k_is)
    (case k_handled => k_is)
    (case a_ways_from => k_is)
    (case l_ways_from => k_is)
    (case c_ways_from => k_is)
    (case k_ways_from => k_is)
    (case a_way_to => k_is)
    (case l_way_to => k_is)
    (case c_way_to => k_is)
    (case k_way_to => k_is)
    (case a_fewest_handlings => k_is)
    (case l_fewest_handlings => k_is)
    (case c_fewest_handlings => k_is)
    (case k_fewest_handlings => k_is)
    (case a_law_draw => k_is)
    (case l_law_draw => k_is)
    (case c_law_draw => k_is)
    (case k_law_draw => k_is)
    (case a_law_like => k_is)
    (case l_law_like => k_is)
    (case c_law_like => k_is)
    (case k_law_like => k_is)
    (case a_law_names => k_is)
    (case l_law_names => k_is)
    (case c_law_names => k_is)
    (case k_law_names => k_is)
    (case a_law_woven => k_is)
    (case l_law_woven => k_is)
    (case c_law_woven => k_is)
    (case k_law_woven => k_is)
    (case a_law_handled => k_is)
    (case l_law_handled => k_is)
    (case c_law_handled => k_is)
    (case k_law_handled => k_is)
    (case a_law_laid => k_is)
    (case l_law_laid => k_is)
    (case c_law_laid => k_is)
    (case k_law_laid => k_is)
    (case a_law_turns => k_is)
    (case l_law_turns => k_is)
    (case c_law_turns => k_is)
    (case k_law_turns => k_is)
    (case a_law_reached => k_is)
    (case l_law_reached => k_is)
    (case c_law_reached => k_is)
    (case k_law_reached => k_is)
