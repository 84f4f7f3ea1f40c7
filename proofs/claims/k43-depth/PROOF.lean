import PyProof.Rows.All
import Wide.All
import OpenK.AllK
import Wide.FinOn
import HandS.ForMost
import HandS.ForExc
import HandS.Wide
import HandS.Flow
import HandS.TryMany
import HandS.IsInst
import HandS.WideBits
import HandS.TupAny
import HandS.More
import HandS.Comp
import HandS.EndBits
import HandS.Dict
import HandS.Style
import PySem.Challenge.RW_everyround_k43_depth
set_option Elab.async false
set_option linter.all false
set_option maxRecDepth 100000
set_option maxHeartbeats 4000000
namespace DL
open PySem PySem.Spec PyProof.Rows L2
open PySem.W (Frag)

/-- data: tuples, frozen lists, frozen objects and frozen dicts by value; what may change by its address -/
inductive D where
  | non | bl (b : Bool) | int (i : Int) | str (x : Str)
  | tup (xs : List D) | lst (xs : List D) | wls (xs : List D)
  | obj (C : Addr) (ns : List Str) (vs : List D)
  | dct (ks vs : List D)
  | ref (a : Addr) | ty (n : String)
/-- what stands at an address that may change -/
inductive HOD where
  | lst (xs : List D) | ins (C : Addr) (ns : List Str) (vs : List D) | dK (kvs : List (Key × D)) | dT (kvs : List (List Key × D))
abbrev HH := Addr → Option HOD

def kD : Key → D
  | .inl i => .int i
  | .inr x => .str x

/-- a tuple that is read: tracked and frozen, or written -/
def FT (K : Frag) (H : Hp) (G : HH) (a : Addr) (xs : List V) : Prop := (H a = some (.tup xs) ∧ G a = none) ∨
  ∃ (o : Obj) (its : Array Value) (n : Nat), K.lookup a = some o ∧ o.cls = .type "tuple" ∧ o.data = .seq its n ∧ its.size ≤ sizeLine ∧ Vals xs its.toList
theorem FT.sq {K H G a xs} (h : FT K H G a xs) : SqT K H a xs := h.elim (fun z => .inl (.inl z.1)) .inr
/-- a list that nobody may change: the script, a list of the written part -/
def FW (K : Frag) (H : Hp) (G : HH) (a : Addr) (xs : List V) : Prop := (Rd H a (.lst xs) ∧ G a = none) ∨
  ∃ (o : Obj) (its : Array Value) (n : Nat), K.lookup a = some o ∧ o.cls = .type "list" ∧ o.dict = none ∧ o.data = .seq its n ∧ its.size ≤ sizeLine ∧ Vals xs its.toList
theorem FW.sq {K H G a xs} (h : FW K H G a xs) : SqL K H a xs := h.elim (fun z => .inl z.1) .inr

mutual
inductive Rp (K : Frag) (H : Hp) (G : HH) : D → V → Prop
  | non : Rp K H G .non .non
  | bl (b : Bool) : Rp K H G (.bl b) (.bl b)
  | int (i : Int) : Rp K H G (.int i) (.int i)
  | str (x : Str) : Rp K H G (.str x) (.str x)
  | ty (n : String) : Rp K H G (.ty n) (.ty n)
  | ref (a : Addr) : Rp K H G (.ref a) (.ref a)
  | tup {a : Addr} {xs : List V} {ds : List D} : FT K H G a xs → Rps K H G ds xs → Rp K H G (.tup ds) (.ref a)
  | lst {a : Addr} {xs : List V} {ds : List D} : H a = some (.lst xs) → G a = none → Rps K H G ds xs → Rp K H G (.lst ds) (.ref a)
  | wls {a : Addr} {xs : List V} {ds : List D} : FW K H G a xs → Rps K H G ds xs → Rp K H G (.wls ds) (.ref a)
  | obj {a dx C : Addr} {ns : List Str} {xs : List V} {ds : List D} : H a = some (.ins C dx (ns.zip xs)) → G a = none → ns.length = xs.length → Rps K H G ds xs → Rp K H G (.obj C ns ds) (.ref a)
  | dK {a : Addr} {kvs : List (Key × V)} {ks ds : List D} : Rd H a (.dK kvs) → G a = none → ks = kvs.map (fun p => kD p.1) → Rps K H G ds (kvs.map (·.2)) → Rp K H G (.dct ks ds) (.ref a)
  | dT {a : Addr} {kvs : List (List Key × V)} {ks ds : List D} : Rd H a (.dT kvs) → G a = none → ks = kvs.map (fun p => D.tup (p.1.map kD)) → Rps K H G ds (kvs.map (·.2)) → Rp K H G (.dct ks ds) (.ref a)
inductive Rps (K : Frag) (H : Hp) (G : HH) : List D → List V → Prop
  | nil : Rps K H G [] []
  | cons {d : D} {v : V} {ds : List D} {vs : List V} : Rp K H G d v → Rps K H G ds vs → Rps K H G (d :: ds) (v :: vs)
end

/-- kinds that a lock may not touch -/
def plainO : HO → Bool
  | .dK _ => false
  | .dT _ => false
  | .frz _ _ => false
  | .set _ _ => false
  | _ => true
/-- a step: what was frozen stays, nothing that stood thaws -/
structure Stp (H : Hp) (G : HH) (H' : Hp) (G' : HH) : Prop where
  keep : ∀ b o, H b = some o → G b = none → plainO o = true → H' b = some o
  keepR : ∀ b o, Rd H b o → G b = none → Rd H' b o
  dom : ∀ b, H b ≠ none → G b = none → G' b = none
theorem rd_ne {H : Hp} {a : Addr} {o : HO} (h : Rd H a o) : H a ≠ none := by
  rcases h with h | ⟨_, h⟩ <;> rw [h] <;> simp
theorem ne_none {H : Hp} {a : Addr} {o : HO} (h : H a = some o) : H a ≠ none := by rw [h]; simp
theorem Stp.refl {H G} : Stp H G H G := ⟨fun _ _ h _ _ => h, fun _ _ h _ => h, fun _ _ h => h⟩
theorem Stp.there {H G H' G'} (s : Stp H G H' G') {b} (h : H b ≠ none) (g : G b = none) : H' b ≠ none := by
  cases e : H b with
  | none => exact absurd e h
  | some o => exact rd_ne (s.keepR b o (.inl e) g)
theorem Stp.trans {H G H1 G1 H2 G2} (a : Stp H G H1 G1) (b : Stp H1 G1 H2 G2) : Stp H G H2 G2 :=
  ⟨fun c o h g p => b.keep c o (a.keep c o h g p) (a.dom c (ne_none h) g) p, fun c o h g => b.keepR c o (a.keepR c o h g) (a.dom c (rd_ne h) g), fun c h g => b.dom c (a.there h g) (a.dom c h g)⟩
theorem FT.mono {K H G H' G' a xs} (s : Stp H G H' G') (h : FT K H G a xs) : FT K H' G' a xs :=
  h.elim (fun z => .inl ⟨s.keep _ _ z.1 z.2 rfl, s.dom _ (ne_none z.1) z.2⟩) .inr
theorem FW.mono {K H G H' G' a xs} (s : Stp H G H' G') (h : FW K H G a xs) : FW K H' G' a xs :=
  h.elim (fun z => .inl ⟨s.keepR _ _ z.1 z.2, s.dom _ (rd_ne z.1) z.2⟩) .inr
mutual
theorem Rp.mono {K H G H' G'} (s : Stp H G H' G') : ∀ {d v}, Rp K H G d v → Rp K H' G' d v
  | _, _, .non => .non
  | _, _, .bl b => .bl b
  | _, _, .int i => .int i
  | _, _, .str x => .str x
  | _, _, .ty n => .ty n
  | _, _, .ref a => .ref a
  | _, _, .tup h r => .tup (h.mono s) (Rps.mono s r)
  | _, _, .lst h g r => .lst (s.keep _ _ h g rfl) (s.dom _ (ne_none h) g) (Rps.mono s r)
  | _, _, .wls h r => .wls (h.mono s) (Rps.mono s r)
  | _, _, .obj h g e r => .obj (s.keep _ _ h g rfl) (s.dom _ (ne_none h) g) e (Rps.mono s r)
  | _, _, .dK h g e r => .dK (s.keepR _ _ h g) (s.dom _ (rd_ne h) g) e (Rps.mono s r)
  | _, _, .dT h g e r => .dT (s.keepR _ _ h g) (s.dom _ (rd_ne h) g) e (Rps.mono s r)
theorem Rps.mono {K H G H' G'} (s : Stp H G H' G') : ∀ {ds vs}, Rps K H G ds vs → Rps K H' G' ds vs
  | _, _, .nil => .nil
  | _, _, .cons a r => .cons (Rp.mono s a) (Rps.mono s r)
end
theorem Rps.length {K H G} : ∀ {ds vs}, Rps K H G ds vs → ds.length = vs.length
  | _, _, .nil => rfl
  | _, _, .cons _ r => by simp [Rps.length r]
theorem Rps.get {K H G} : ∀ {ds : List D} {vs : List V} {i : Nat} {d : D}, Rps K H G ds vs → ds[i]? = some d → ∃ v, vs[i]? = some v ∧ Rp K H G d v
  | _, _, _, _, .nil, e => by simp at e
  | _, _, 0, _, .cons a _, e => by simp at e; subst e; exact ⟨_, rfl, a⟩
  | _, _, i + 1, d, .cons _ r, e => by
    obtain ⟨v, h1, h2⟩ := Rps.get (i := i) (d := d) r (by simpa using e)
    exact ⟨v, by simpa using h1, h2⟩
theorem Rps.append {K H G} : ∀ {ds es : List D} {vs ws : List V}, Rps K H G ds vs → Rps K H G es ws → Rps K H G (ds ++ es) (vs ++ ws)
  | _, _, _, _, .nil, s => s
  | _, _, _, _, .cons r t, s => .cons r (Rps.append t s)
theorem Rps.take {K H G} : ∀ {ds : List D} {vs : List V} (n : Nat), Rps K H G ds vs → Rps K H G (ds.take n) (vs.take n)
  | _, _, 0, _ => by simp; exact .nil
  | _, _, _ + 1, .nil => .nil
  | _, _, n + 1, .cons r t => .cons r (Rps.take n t)
theorem Rps.drop {K H G} : ∀ {ds : List D} {vs : List V} (n : Nat), Rps K H G ds vs → Rps K H G (ds.drop n) (vs.drop n)
  | _, _, 0, r => r
  | _, _, _ + 1, .nil => .nil
  | _, _, n + 1, .cons r t => Rps.drop n t
theorem Rps.set {K H G} {d : D} {v : V} (r : Rp K H G d v) : ∀ {ds : List D} {vs : List V} (i : Nat), Rps K H G ds vs → Rps K H G (ds.set i d) (vs.set i v)
  | _, _, _, .nil => .nil
  | _, _, 0, .cons _ t => .cons r t
  | _, _, i + 1, .cons q t => .cons q (Rps.set r i t)
theorem Rps.ints {K H G} : ∀ {ns : List Int} {vs : List V}, Rps K H G (ns.map D.int) vs → vs = ns.map V.int
  | [], _, .nil => rfl
  | n :: ns, _, .cons a r => by cases a; rw [Rps.ints r]; rfl
theorem Rps.of_ints {K H G} : ∀ (ns : List Int), Rps K H G (ns.map D.int) (ns.map V.int)
  | [] => .nil
  | n :: ns => .cons (.int n) (Rps.of_ints ns)
theorem Rps.strs {K H G} : ∀ {ns : List Str} {vs : List V}, Rps K H G (ns.map D.str) vs → vs = ns.map V.str
  | [], _, .nil => rfl
  | n :: ns, _, .cons a r => by cases a; rw [Rps.strs r]; rfl
theorem Rps.of_strs {K H G} : ∀ (ns : List Str), Rps K H G (ns.map D.str) (ns.map V.str)
  | [] => .nil
  | n :: ns => .cons (.str n) (Rps.of_strs ns)
theorem Rps.bls {K H G} : ∀ {ns : List Bool} {vs : List V}, Rps K H G (ns.map D.bl) vs → vs = ns.map V.bl
  | [], _, .nil => rfl
  | n :: ns, _, .cons a r => by cases a; rw [Rps.bls r]; rfl

/-- the heap of what may change -/
def HR (K : Frag) (H : Hp) (G : HH) (p : Addr) : HOD → Prop
  | .lst ds => ∃ xs, H p = some (.lst xs) ∧ Rps K H G ds xs
  | .ins C ns ds => ∃ dx xs, H p = some (.ins C dx (ns.zip xs)) ∧ ns.length = xs.length ∧ Rps K H G ds xs
  | .dK kvs => ∃ xs : List (Key × V), H p = some (.dK xs) ∧ kvs.map (·.1) = xs.map (·.1) ∧ Rps K H G (kvs.map (·.2)) (xs.map (·.2))
  | .dT kvs => ∃ xs : List (List Key × V), H p = some (.dT xs) ∧ kvs.map (·.1) = xs.map (·.1) ∧ Rps K H G (kvs.map (·.2)) (xs.map (·.2))
def RelH (K : Frag) (H : Hp) (G : HH) : Prop := ∀ p o, G p = some o → HR K H G p o
theorem HR.ne {K H G p o} (h : HR K H G p o) : H p ≠ none := by
  cases o with
  | lst ds => obtain ⟨_, e, _⟩ := h; rw [e]; simp
  | ins C ns ds => obtain ⟨_, _, e, _⟩ := h; rw [e]; simp
  | dK kvs => obtain ⟨_, e, _⟩ := h; rw [e]; simp
  | dT kvs => obtain ⟨_, e, _⟩ := h; rw [e]; simp
theorem RelH.free {K H G p} (h : RelH K H G) (e : H p = none) : G p = none := by
  cases q : G p with
  | none => rfl
  | some o => exact absurd e (h p o q).ne
/-- the slots -/
abbrev SD := List (Option D)
structure SRp (K : Frag) (H : Hp) (G : HH) (σD : SD) (σ : L2.St) : Prop where
  len : σD.length = σ.length
  at_ : ∀ (i : Nat) (d : D), σD[i]? = some (some d) → ∃ v, σ[i]? = some (some v) ∧ Rp K H G d v
theorem SRp.mono {K : Frag} {H G H' G'} {σD : SD} {σ : L2.St} (s : Stp H G H' G') (h : SRp K H G σD σ) : SRp K H' G' σD σ :=
  ⟨h.len, fun i d e => let ⟨v, e1, r⟩ := h.at_ i d e; ⟨v, e1, r.mono s⟩⟩
theorem SRp.set {K : Frag} {H G} {σD : SD} {σ : L2.St} {d : D} {v : V} (h : SRp K H G σD σ) (i : Nat) (r : Rp K H G d v) : SRp K H G (σD.set i (some d)) (σ.set i (some v)) := by
  refine ⟨by simp [h.len], fun j e he => ?_⟩
  by_cases hj : i = j
  · subst hj
    have hlt : i < σD.length := by
      have := (List.getElem?_eq_some_iff.mp he).1
      simpa using this
    rw [List.getElem?_set_self hlt] at he
    cases he
    exact ⟨v, List.getElem?_set_self (by rw [← h.len]; exact hlt), r⟩
  · rw [List.getElem?_set_ne hj] at he
    obtain ⟨u, e1, r1⟩ := h.at_ j e he
    exact ⟨u, by rw [List.getElem?_set_ne hj]; exact e1, r1⟩

/-- an exception: its class, its fields -/
structure XD where
  cls : Value
  ns : List Str
  vs : List D
def XRp (K : Frag) (H : Hp) (G : HH) (x : XD) (cls : Value) (d : Option Addr) : Prop := cls = x.cls ∧
  match d with
  | none => x.ns = [] ∧ x.vs = []
  | some a => ∃ xs, H a = some (.xd (x.ns.zip xs)) ∧ G a = none ∧ x.ns.length = xs.length ∧ Rps K H G x.vs xs
abbrev QD := D → HH → Prop
abbrev ED := XD → HH → Prop
abbrev TED := SD → HH → QD → ED → Prop
abbrev TTD := SD → HH → (Bool → HH → Prop) → ED → Prop
abbrev TAD := SD → HH → (List D → HH → Prop) → ED → Prop
/-- where an exception may go -/
def Exs (K : Frag) (W : WX) (σ : L2.St) (H : Hp) (G : HH) (E : ED) : Prop := ∀ x cls d H' G', Stp H G H' G' → RelH K H' G' → XRp K H' G' x cls d → E x G' → W cls d σ H'
theorem Exs.mono {K W σ H G H' G' E} (s : Stp H G H' G') (h : Exs K W σ H G E) : Exs K W σ H' G' E := fun x cls d H2 G2 s2 r2 p2 e2 => h x cls d H2 G2 (s.trans s2) r2 p2 e2
/-- what follows a value -/
def Ct (K : Frag) (H : Hp) (G : HH) (Q : VK) (QD : QD) : Prop := ∀ v H' d G', Stp H G H' G' → RelH K H' G' → Rp K H' G' d v → QD d G' → Q v H'
theorem Ct.mono {K H G H' G' Q QD} (s : Stp H G H' G') (h : Ct K H G Q QD) : Ct K H' G' Q QD := fun v H2 d G2 s2 r2 p2 q2 => h v H2 d G2 (s.trans s2) r2 p2 q2
theorem Ct.now {K H G Q QD d v} (h : Ct K H G Q QD) (r : RelH K H G) (p : Rp K H G d v) (q : QD d G) : Q v H := h v H d G Stp.refl r p q
def lft (K : Frag) (W : WX) (t : TED) : TE := fun σ H Q => ∃ σD G QD E, RelH K H G ∧ SRp K H G σD σ ∧ t σD G QD E ∧ Ct K H G Q QD ∧ Exs K W σ H G E
def lftT (K : Frag) (W : WX) (t : TTD) : TT := fun σ H Q => ∃ σD G QD E, RelH K H G ∧ SRp K H G σD σ ∧ t σD G QD E ∧ (∀ b H' G', Stp H G H' G' → RelH K H' G' → QD b G' → Q b H') ∧ Exs K W σ H G E
def lftA (K : Frag) (W : WX) (t : TAD) : TA := fun σ H Q => ∃ σD G QD E, RelH K H G ∧ SRp K H G σD σ ∧ t σD G QD E ∧ (∀ vs H' ds G', Stp H G H' G' → RelH K H' G' → Rps K H' G' ds vs → QD ds G' → Q vs H') ∧ Exs K W σ H G E
/-- the judgements over data -/
def DE (X : Cx) (W : WX) (e : Expr) (t : TED) : Prop := PE X e (lft X.K W t)
def DT (X : Cx) (W : WX) (e : Expr) (t : TTD) : Prop := PT X e (lftT X.K W t)
def DW (X : Cx) (W : WX) (e : Expr) (t : TTD) : Prop := PW X e (lftT X.K W t)
def DA (X : Cx) (W : WX) (es : List Expr) (t : TAD) : Prop := PA X es (lftA X.K W t)
theorem PE.imp {X : Cx} {e : Expr} {t t' : TE} (h : PE X e t) (i : ∀ σ H Q, t' σ H Q → t σ H Q) : PE X e t' := ⟨fun pins s σ H Q I q => h.run pins s σ H Q I (i σ H Q q)⟩
theorem PT.imp {X : Cx} {e : Expr} {t t' : TT} (h : PT X e t) (i : ∀ σ H Q, t' σ H Q → t σ H Q) : PT X e t' := ⟨fun pins s σ H Q I q => h.run pins s σ H Q I (i σ H Q q)⟩
theorem PW.imp {X : Cx} {e : Expr} {t t' : TT} (h : PW X e t) (i : ∀ σ H Q, t' σ H Q → t σ H Q) : PW X e t' := ⟨fun wh pins s σ H Q I q => h.run wh pins s σ H Q I (i σ H Q q)⟩
theorem PA.imp {X : Cx} {es : List Expr} {t t' : TA} (h : PA X es t) (i : ∀ σ H Q, t' σ H Q → t σ H Q) : PA X es t' := ⟨fun pos pins s σ H Q I q => h.run pos pins s σ H Q I (i σ H Q q)⟩

/-! ### names, constants -/
def dVar (i : Nat) : TED := fun σ G Q _ => ∃ d, σ[i]? = some (some d) ∧ Q d G
def dC (d : D) : TED := fun _ G Q _ => Q d G
variable {X : Cx} {W : WX}
theorem de_var (i : Nat) {x : Str} {pos : Pos} (hN : X.N[i]? = some x := by rfl) (hv : Vis X.env.scope x := by first | exact Or.inl rfl | exact Or.inr (Or.inl rfl) | exact Or.inr (Or.inr rfl)) (hd : (x == ("__debug__" : Str)) = false := by decide)
    (hcd : (x == ("__classdict__" : Str)) = false := by decide) : DE X W (.Name x pos) (dVar i) :=
  PE.imp (pe_var hN hv hd hcd) fun σ H Q ⟨σD, G, QD, E, hR, hS, ⟨d, e, q⟩, hq, he⟩ => by
    obtain ⟨v, ev, r⟩ := hS.at_ i d e
    exact ⟨v, ev, hq.now hR r q⟩
theorem lft_C {K W d v σ H Q} (r : ∀ H G, Rp K H G d v) (h : lft K W (dC d) σ H Q) : tC v σ H Q := by
  obtain ⟨σD, G, QD, E, hR, hS, q, hq, he⟩ := h
  exact hq.now hR (r H G) q
theorem de_int {i j pos} : DE X W (.Constant (.int i) j pos) (dC (.int i)) := PE.imp pe_int fun _ _ _ => lft_C fun _ _ => .int i
theorem de_bl {i j pos} : DE X W (.Constant (.bool i) j pos) (dC (.bl i)) := PE.imp pe_bl fun _ _ _ => lft_C fun _ _ => .bl i
theorem de_non {j pos} : DE X W (.Constant .none j pos) (dC .non) := PE.imp pe_non fun _ _ _ => lft_C fun _ _ => .non
theorem de_str {x j pos} : DE X W (.Constant (.str x) j pos) (dC (.str x)) := PE.imp pe_str fun _ _ _ => lft_C fun _ _ => .str x
/-- a global name's value -/
theorem de_glob {x : Str} {d : D} {v : V} {u : Value} {pos : Pos} (r : ∀ H G, Rp X.K H G d v) (hg : Gl X x) (hm : X.mg x = some u) (ru : RelV v u) (hd : (x == ("__debug__" : Str)) = false := by decide) : DE X W (.Name x pos) (dC d) :=
  PE.imp (pe_glob hg hm ru hd) fun _ _ _ => lft_C r

/-! ### operators by values -/
def OpSim (K : Frag) (r : R2) (rD : D → D → HH → QD → Prop) : Prop := ∀ x y H Q dx dy G QD, RelH K H G → Rp K H G dx x → Rp K H G dy y → rD dx dy G QD → Ct K H G Q QD → r x y H Q
def dOp (rD : D → D → HH → QD → Prop) (ta tb : TED) : TED := fun σ G Q E => ta σ G (fun x G1 => tb σ G1 (fun y G2 => rD x y G2 Q) E) E
theorem lft_op {K : Frag} {W : WX} {r rD ta tb σ H Q} (sim : OpSim K r rD) (h : lft K W (dOp rD ta tb) σ H Q) : tOp r (lft K W ta) (lft K W tb) σ H Q := by
  obtain ⟨σD, G, QD, E, hR, hS, ht, hq, he⟩ := h
  refine ⟨σD, G, _, E, hR, hS, ht, fun v1 H1 d1 G1 s1 r1 p1 q1 => ?_, he⟩
  refine ⟨σD, G1, _, E, r1, hS.mono s1, q1, fun v2 H2 d2 G2 s2 r2 p2 q2 => ?_, he.mono s1⟩
  exact sim _ _ _ _ _ _ _ _ r2 (p1.mono s2) p2 q2 (hq.mono (s1.trans s2))
theorem OpSim.or {K r r' rD rD'} (h : OpSim K r rD) (h' : OpSim K r' rD') : OpSim K (fun x y H Q => r x y H Q ∨ r' x y H Q) (fun x y G Q => rD x y G Q ∨ rD' x y G Q) :=
  fun x y H Q dx dy G QD hR px py q hq => q.elim (fun z => .inl (h x y H Q dx dy G QD hR px py z hq)) fun z => .inr (h' x y H Q dx dy G QD hR px py z hq)
/-- operators on two ints -/
def oI (C : Int → Int → Prop) (g : Int → Int → D) : D → D → HH → QD → Prop := fun x y G Q => ∃ i j, x = .int i ∧ y = .int j ∧ C i j ∧ Q (g i j) G
theorem sim_I {K : Frag} {C : Int → Int → Prop} {g : Int → Int → V} {gD : Int → Int → D} (hg : ∀ i j H G, Rp K H G (gD i j) (g i j)) : OpSim K (rI C g) (oI C gD) := fun x y H Q dx dy G QD hR px py q hq => by
  obtain ⟨i, j, rfl, rfl, c, q⟩ := q
  cases px; cases py
  exact ⟨i, j, rfl, rfl, c, hq.now hR (hg i j H G) q⟩
theorem sim_I0 {K : Frag} {g : Int → Int → V} {gD : Int → Int → D} (hg : ∀ i j H G, Rp K H G (gD i j) (g i j)) : OpSim K (rI0 g) (oI (fun _ _ => True) gD) := fun x y H Q dx dy G QD hR px py q hq => by
  obtain ⟨i, j, rfl, rfl, c, q⟩ := q
  cases px; cases py
  exact ⟨i, j, rfl, rfl, hq.now hR (hg i j H G) q⟩
end DL

namespace DL
open PySem PySem.Spec PyProof.Rows L2
open PySem.W (Frag)

/-! ### changes of the heaps -/
def gput (G : HH) (p : Addr) (o : HOD) : HH := fun b => if b = p then some o else G b
def gdel (G : HH) (p : Addr) : HH := fun b => if b = p then none else G b
theorem gput_same {G p o} : gput G p o p = some o := by unfold gput; rw [if_pos rfl]
theorem gput_ne {G : HH} {p b : Addr} {o} (h : b ≠ p) : gput G p o b = G b := by unfold gput; rw [if_neg h]
theorem gdel_same {G p} : gdel G p p = none := by unfold gdel; rw [if_pos rfl]
theorem gdel_ne {G : HH} {p b : Addr} (h : b ≠ p) : gdel G p b = G b := by unfold gdel; rw [if_neg h]
theorem gput_gput {G p o o'} : gput (gput G p o) p o' = gput G p o' := by
  funext b; unfold gput; split <;> rfl
theorem rd_new {H : Hp} {p b : Addr} {o u : HO} (hn : H p = none) (h : Rd H b u) : Rd (upd H p o) b u := by
  have hb : b ≠ p := fun e => rd_ne h (by rw [e]; exact hn)
  rcases h with h | ⟨o', h⟩
  · exact .inl (by rw [upd_ne hb]; exact h)
  · exact .inr ⟨o', by rw [upd_ne hb]; exact h⟩
/-- a new object, frozen at once -/
theorem Stp.new {H G p o} (hn : H p = none) : Stp H G (upd H p o) G :=
  ⟨fun b u h _ _ => by rw [upd_ne (ne_of_none h hn)]; exact h, fun b u h _ => rd_new hn h, fun b _ g => g⟩
theorem HR.at {K H G H' G' p o} (h : HR K H G p o) (s : Stp H G H' G') (e : H' p = H p) : HR K H' G' p o := by
  cases o with
  | lst ds => obtain ⟨xs, h1, r⟩ := h; exact ⟨xs, by rw [e]; exact h1, r.mono s⟩
  | ins C ns ds => obtain ⟨dx, xs, h1, l, r⟩ := h; exact ⟨dx, xs, by rw [e]; exact h1, l, r.mono s⟩
  | dK kvs => obtain ⟨xs, h1, l, r⟩ := h; exact ⟨xs, by rw [e]; exact h1, l, r.mono s⟩
  | dT kvs => obtain ⟨xs, h1, l, r⟩ := h; exact ⟨xs, by rw [e]; exact h1, l, r.mono s⟩
theorem RelH.new {K H G p o} (h : RelH K H G) (hn : H p = none) : RelH K (upd H p o) G := fun q u e =>
  (h q u e).at (Stp.new hn) (upd_ne fun z => (h q u e).ne (by rw [z]; exact hn))
/-- a new object that may change -/
theorem Stp.newM {H G p o od} (hn : H p = none) : Stp H G (upd H p o) (gput G p od) :=
  ⟨fun b u h _ _ => by rw [upd_ne (ne_of_none h hn)]; exact h, fun b u h _ => rd_new hn h, fun b hb g => by
    rw [gput_ne (fun z => hb (by rw [z]; exact hn))]; exact g⟩
theorem RelH.newM {K H G p o od} (h : RelH K H G) (hn : H p = none) (hr : HR K (upd H p o) (gput G p od) p od) : RelH K (upd H p o) (gput G p od) := fun q u e => by
  by_cases hq : q = p
  · subst hq; rw [gput_same] at e; cases e; exact hr
  · rw [gput_ne hq] at e
    exact (h q u e).at (Stp.newM hn) (upd_ne hq)
/-- a change -/
theorem Stp.put {H G p o od o0} (hp : G p = some o0) : Stp H G (upd H p o) (gput G p od) := by
  have ne : ∀ b, G b = none → b ≠ p := fun b g e => by rw [e, hp] at g; cases g
  refine ⟨fun b u h g _ => by rw [upd_ne (ne b g)]; exact h, fun b u h g => ?_, fun b _ g => by rw [gput_ne (ne b g)]; exact g⟩
  rcases h with h | ⟨o', h⟩
  · exact .inl (by rw [upd_ne (ne b g)]; exact h)
  · exact .inr ⟨o', by rw [upd_ne (ne b g)]; exact h⟩
theorem RelH.put {K H G p o od o0} (h : RelH K H G) (hp : G p = some o0) (hr : HR K (upd H p o) (gput G p od) p od) : RelH K (upd H p o) (gput G p od) := fun q u e => by
  by_cases hq : q = p
  · subst hq; rw [gput_same] at e; cases e; exact hr
  · rw [gput_ne hq] at e
    exact (h q u e).at (Stp.put hp) (upd_ne hq)
/-- freezing -/
theorem Stp.del {H G p} : Stp H G H (gdel G p) := ⟨fun _ _ h _ _ => h, fun _ _ h _ => h, fun b _ g => by
  by_cases hb : b = p
  · subst hb; exact gdel_same
  · rw [gdel_ne hb]; exact g⟩
theorem RelH.del {K H G p} (h : RelH K H G) : RelH K H (gdel G p) := fun q u e => by
  by_cases hq : q = p
  · subst hq; rw [gdel_same] at e; cases e
  · rw [gdel_ne hq] at e
    exact (h q u e).at Stp.del rfl

/-! ### displays -/
variable {X : Cx} {W : WX} {e a b c : Expr} {es : List Expr} {ta tb tc : TED} {t u : TAD} {pos : Pos}
def dNil : TAD := fun _ G Q _ => Q [] G
def dCons (ta : TED) (t : TAD) : TAD := fun σ G Q E => ta σ G (fun d G1 => t σ G1 (fun ds G2 => Q (d :: ds) G2) E) E
theorem da_nil : DA X W [] dNil := PA.imp pa_nil fun σ H Q ⟨σD, G, QD, E, hR, hS, q, hq, he⟩ => hq _ _ _ _ Stp.refl hR .nil q
theorem da_cons (ha : DE X W e ta) (hr : DA X W es t) (hs : starEach (e :: es) X.env = (false, eval e X.env) :: starEach es X.env := by rfl) : DA X W (e :: es) (dCons ta t) :=
  PA.imp (pa_cons ha hr hs) fun σ H Q ⟨σD, G, QD, E, hR, hS, q, hq, he⟩ => by
    refine ⟨σD, G, _, E, hR, hS, q, fun v1 H1 d1 G1 s1 r1 p1 q1 => ?_, he⟩
    refine ⟨σD, G1, _, E, r1, hS.mono s1, q1, fun vs H2 ds G2 s2 r2 p2 q2 => ?_, he.mono s1⟩
    exact hq _ _ _ _ (s1.trans s2) r2 (.cons (p1.mono s2) p2) q2
def dTup (t : TAD) : TED := fun σ G Q E => t σ G (fun ds G1 => ds.length ≤ sizeLine ∧ Q (.tup ds) G1) E
theorem de_tup {x1} (h : DA X W es t) : DE X W (.Tuple es x1 pos) (dTup t) :=
  PE.imp (pe_tup h) fun σ H Q ⟨σD, G, QD, E, hR, hS, q, hq, he⟩ => by
    refine ⟨σD, G, _, E, hR, hS, q, fun vs H1 ds G1 s1 r1 p1 ⟨l, q1⟩ => ⟨by rw [← p1.length]; exact l, fun p hp => ?_⟩, he⟩
    have s2 : Stp H1 G1 (upd H1 p (.tup vs)) G1 := .new hp
    exact hq _ _ _ _ (s1.trans s2) (r1.new hp) (.tup (.inl ⟨upd_same, r1.free hp⟩) (p1.mono s2)) q1
def dLst (t : TAD) : TED := fun σ G Q E => t σ G (fun ds G1 => ds.length ≤ sizeLine ∧ Q (.lst ds) G1) E
theorem de_lst {x1} (h : DA X W es t) : DE X W (.List es x1) (dLst t) :=
  PE.imp (pe_lst h) fun σ H Q ⟨σD, G, QD, E, hR, hS, q, hq, he⟩ => by
    refine ⟨σD, G, _, E, hR, hS, q, fun vs H1 ds G1 s1 r1 p1 ⟨l, q1⟩ => ⟨by rw [← p1.length]; exact l, fun p hp => ?_⟩, he⟩
    have s2 : Stp H1 G1 (upd H1 p (.lst vs)) G1 := .new hp
    exact hq _ _ _ _ (s1.trans s2) (r1.new hp) (.lst upd_same (r1.free hp) (p1.mono s2)) q1
/-- a list that will change -/
def dLstM (t : TAD) : TED := fun σ G Q E => t σ G (fun ds G1 => ds.length ≤ sizeLine ∧ ∀ p, G1 p = none → Q (.ref p) (gput G1 p (.lst ds))) E
theorem de_lstM {x1} (h : DA X W es t) : DE X W (.List es x1) (dLstM t) :=
  PE.imp (pe_lst h) fun σ H Q ⟨σD, G, QD, E, hR, hS, q, hq, he⟩ => by
    refine ⟨σD, G, _, E, hR, hS, q, fun vs H1 ds G1 s1 r1 p1 ⟨l, q1⟩ => ⟨by rw [← p1.length]; exact l, fun p hp => ?_⟩, he⟩
    have s2 : Stp H1 G1 (upd H1 p (.lst vs)) (gput G1 p (.lst ds)) := .newM hp
    exact hq _ _ _ _ (s1.trans s2) (r1.newM hp ⟨vs, upd_same, p1.mono s2⟩) (.ref p) (q1 p (r1.free hp))

/-! ### operators -/
def OpD (X : Cx) (f : Value → Value → Sem Value) (rD : D → D → HH → QD → Prop) : Prop := ∃ r, OpR X f r ∧ OpSim X.K r rD
theorem OpD.or {f r r'} (h : OpD X f r) (h' : OpD X f r') : OpD X f (fun x y G Q => r x y G Q ∨ r' x y G Q) :=
  let ⟨_, a1, a2⟩ := h; let ⟨_, b1, b2⟩ := h'; ⟨_, a1.or b1, a2.or b2⟩
theorem de_op {op : Operator} {rD} (o : OpD X (binaryOp op) rD) (ha : DE X W a ta) (hb : DE X W b tb) : DE X W (.BinOp a op b pos) (dOp rD ta tb) :=
  let ⟨_, h1, h2⟩ := o; PE.imp (pe_op h1 ha hb) fun _ _ _ => lft_op h2
theorem de_cmp {op : CmpOp} {rD} (o : OpD X (compareOp op) rD) (ha : DE X W a ta) (hb : DE X W b tb) (hm : behindInMarks op b = false) : DE X W (.Compare a [op] [b] pos) (dOp rD ta tb) :=
  let ⟨_, h1, h2⟩ := o; PE.imp (pe_cmpR h1 ha hb hm) fun _ _ _ => lft_op h2
/-- a value's reading as a test -/
def dTest (t : TED) : TTD := fun σ G Q E => t σ G (fun x G1 => ∃ k, x = .bl k ∧ Q k G1) E
theorem lft_test {t : TE} {tD : TED} {K : Frag} (i : ∀ σ H Q, lft K W tD σ H Q → t σ H Q) : ∀ σ H Q, lftT K W (dTest tD) σ H Q → tTest t σ H Q := fun σ H Q ⟨σD, G, QD, E, hR, hS, q, hq, he⟩ => by
  refine i σ H _ ⟨σD, G, _, E, hR, hS, q, fun v1 H1 d1 G1 s1 r1 p1 ⟨k, e, q1⟩ => ?_, he⟩
  subst e
  cases p1
  exact ⟨k, rfl, hq _ _ _ s1 r1 q1⟩
theorem dt_cmp {op : CmpOp} {rD} (o : OpD X (compareOp op) rD) (ha : DE X W a ta) (hb : DE X W b tb) (hm : behindInMarks op b = false) : DT X W (.Compare a [op] [b] pos) (dTest (dOp rD ta tb)) :=
  let ⟨_, h1, h2⟩ := o; PT.imp (pt_cmpR h1 ha hb hm) (lft_test fun _ _ _ => lft_op h2)
def dChain (r r' : D → D → HH → QD → Prop) (ta tb tc : TED) : TED := fun σ G Q E => ta σ G (fun x G1 => tb σ G1 (fun y G2 => r x y G2 fun z G3 => ∃ k, z = .bl k ∧ (if k = true then tc σ G3 (fun w G4 => r' y w G4 Q) E else Q (.bl false) G3)) E) E
theorem lft_chain {K : Frag} {r r' : R2} {rD rD' σ H Q} (sim : OpSim K r rD) (sim' : OpSim K r' rD') (h : lft K W (dChain rD rD' ta tb tc) σ H Q) : tChain r r' (lft K W ta) (lft K W tb) (lft K W tc) σ H Q := by
  obtain ⟨σD, G, QD, E, hR, hS, ht, hq, he⟩ := h
  refine ⟨σD, G, _, E, hR, hS, ht, fun v1 H1 d1 G1 s1 r1 p1 q1 => ?_, he⟩
  refine ⟨σD, G1, _, E, r1, hS.mono s1, q1, fun v2 H2 d2 G2 s2 r2 p2 q2 => ?_, he.mono s1⟩
  refine sim _ _ _ _ _ _ _ _ r2 (p1.mono s2) p2 q2 fun v3 H3 d3 G3 s3 r3 p3 ⟨k, e3, q3⟩ => ?_
  subst e3
  cases p3
  refine ⟨k, rfl, ?_⟩
  cases k with
  | true =>
    rw [if_pos rfl] at q3 ⊢
    refine ⟨σD, G3, _, E, r3, hS.mono ((s1.trans s2).trans s3), q3, fun v4 H4 d4 G4 s4 r4 p4 q4 => ?_, he.mono ((s1.trans s2).trans s3)⟩
    exact sim' _ _ _ _ _ _ _ _ r4 ((p2.mono s3).mono s4) p4 q4 (hq.mono (((s1.trans s2).trans s3).trans s4))
  | false =>
    rw [if_neg Bool.false_ne_true] at q3 ⊢
    exact hq _ _ _ _ ((s1.trans s2).trans s3) r3 (.bl false) q3
theorem de_chain {op op' : CmpOp} {rD rD'} (o : OpD X (compareOp op) rD) (o' : OpD X (compareOp op') rD') (ha : DE X W a ta) (hb : DE X W b tb) (hc : DE X W c tc)
    (hm : lastMarks [op, op'] [b, c] = false := by with_unfolding_all rfl) : DE X W (.Compare a [op, op'] [b, c] pos) (dChain rD rD' ta tb tc) :=
  let ⟨_, h1, h2⟩ := o; let ⟨_, h3, h4⟩ := o'; PE.imp (pe_chain h1 h3 ha hb hc hm) fun _ _ _ => lft_chain h2 h4
theorem dt_chain {op op' : CmpOp} {rD rD'} (o : OpD X (compareOp op) rD) (o' : OpD X (compareOp op') rD') (ha : DE X W a ta) (hb : DE X W b tb) (hc : DE X W c tc)
    (hm : lastMarks [op, op'] [b, c] = false := by with_unfolding_all rfl) : DT X W (.Compare a [op, op'] [b, c] pos) (dTest (dChain rD rD' ta tb tc)) :=
  let ⟨_, h1, h2⟩ := o; let ⟨_, h3, h4⟩ := o'; PT.imp (pt_chain h1 h3 ha hb hc hm) (lft_test fun _ _ _ => lft_chain h2 h4)
def dUn (r : D → HH → QD → Prop) (ta : TED) : TED := fun σ G Q E => ta σ G (fun x G1 => r x G1 Q) E
def uI (g : Int → D) : D → HH → QD → Prop := fun x G Q => ∃ i, x = .int i ∧ Q (g i) G
theorem de_neg (ha : DE X W a ta) : DE X W (.UnaryOp .USub a pos) (dUn (uI fun i => .int (-i)) ta) :=
  PE.imp (pe_un un_neg ha) fun σ H Q ⟨σD, G, QD, E, hR, hS, q, hq, he⟩ =>
    ⟨σD, G, _, E, hR, hS, q, fun v1 H1 d1 G1 s1 r1 p1 ⟨i, e, q1⟩ => by
      subst e; cases p1
      exact ⟨i, rfl, hq _ _ _ _ s1 r1 (.int _) q1⟩, he⟩

/-- a sequence that is read, and its items -/
inductive Sq (G : HH) : D → List D → Prop
  | tup (xs : List D) : Sq G (.tup xs) xs
  | lst (xs : List D) : Sq G (.lst xs) xs
  | wls (xs : List D) : Sq G (.wls xs) xs
  | ref {p : Addr} {xs : List D} : G p = some (.lst xs) → Sq G (.ref p) xs
/-- .. a list alone -/
inductive Ls (G : HH) : D → List D → Prop
  | lst (xs : List D) : Ls G (.lst xs) xs
  | ref {p : Addr} {xs : List D} : G p = some (.lst xs) → Ls G (.ref p) xs
theorem Sq.of {K H G d xs v} (s : Sq G d xs) (r : RelH K H G) (p : Rp K H G d v) : ∃ a vs, v = .ref a ∧ (SqL K H a vs ∨ SqT K H a vs) ∧ Rps K H G xs vs := by
  cases s with
  | tup => cases p with | tup h q => exact ⟨_, _, rfl, .inr h.sq, q⟩
  | lst => cases p with | lst h g q => exact ⟨_, _, rfl, .inl (SqL.of h), q⟩
  | wls => cases p with | wls h q => exact ⟨_, _, rfl, .inl h.sq, q⟩
  | ref e => cases p with | ref a => obtain ⟨vs, h, q⟩ := r _ _ e; exact ⟨_, vs, rfl, .inl (SqL.of h), q⟩
theorem Ls.of {K H G d xs v} (s : Ls G d xs) (r : RelH K H G) (p : Rp K H G d v) : ∃ a vs, v = .ref a ∧ H a = some (.lst vs) ∧ Rps K H G xs vs := by
  cases s with
  | lst => cases p with | lst h g q => exact ⟨_, _, rfl, h, q⟩
  | ref e => cases p with | ref a => obtain ⟨vs, h, q⟩ := r _ _ e; exact ⟨_, vs, rfl, h, q⟩
/-- a new frozen list of such values comes -/
theorem Ct.lst {K H G Q QD p vs ds} (h : Ct K H G Q QD) (r : RelH K H G) (hp : H p = none) (q : Rps K H G ds vs) (z : QD (.lst ds) G) : Q (.ref p) (upd H p (.lst vs)) :=
  h _ _ _ _ (Stp.new hp) (r.new hp) (.lst upd_same (r.free hp) (q.mono (Stp.new hp))) z
theorem Ct.tup {K H G Q QD p vs ds} (h : Ct K H G Q QD) (r : RelH K H G) (hp : H p = none) (q : Rps K H G ds vs) (z : QD (.tup ds) G) : Q (.ref p) (upd H p (.tup vs)) :=
  h _ _ _ _ (Stp.new hp) (r.new hp) (.tup (.inl ⟨upd_same, r.free hp⟩) (q.mono (Stp.new hp))) z

/-! + -/
def aStr : D → D → HH → QD → Prop := fun x y G Q => ∃ i j, x = .str i ∧ y = .str j ∧ i.length + j.length ≤ sizeLine ∧ Q (.str (i ++ j)) G
def aLst : D → D → HH → QD → Prop := fun x y G Q => ∃ xs ys, Ls G x xs ∧ Ls G y ys ∧ xs.length + ys.length ≤ sizeLine ∧ Q (.lst (xs ++ ys)) G
def aTup : D → D → HH → QD → Prop := fun x y G Q => ∃ xs ys, x = .tup xs ∧ y = .tup ys ∧ xs.length + ys.length ≤ sizeLine ∧ Q (.tup (xs ++ ys)) G
theorem oAddI : OpD X (binaryOp .Add) (oI (fun _ _ => True) fun i j => .int (i + j)) := ⟨_, op_add, sim_I0 fun i j _ _ => .int _⟩
theorem oAddStr : OpD X (binaryOp .Add) aStr := ⟨_, op_add_str, fun x y H Q dx dy G QD hR px py ⟨i, j, e1, e2, l, q⟩ hq => by
  subst e1; subst e2; cases px; cases py
  exact ⟨_, _, rfl, rfl, l, hq.now hR (.str _) q⟩⟩
theorem oAddLst : OpD X (binaryOp .Add) aLst := ⟨_, op_cat, fun x y H Q dx dy G QD hR px py ⟨xs, ys, e1, e2, l, q⟩ hq => by
  obtain ⟨a, vs, rfl, ha, ra⟩ := e1.of hR px
  obtain ⟨b, us, rfl, hb, rb⟩ := e2.of hR py
  exact ⟨_, _, _, _, rfl, rfl, ha, hb, by rw [← ra.length, ← rb.length]; exact l, fun p hp => hq.lst hR hp (ra.append rb) q⟩⟩
theorem oMulI : OpD X (binaryOp .Mult) (oI CMulX fun i j => .int (i * j)) := ⟨_, op_mulX, sim_I fun i j _ _ => .int _⟩
def mRep : D → D → HH → QD → Prop := fun x y G Q => ∃ xs k, Ls G x xs ∧ y = .int k ∧ -(2 ^ 63) ≤ k ∧ k < 2 ^ 63 ∧ xs.length * k.toNat ≤ sizeLine ∧ Q (.lst (List.replicate k.toNat xs).flatten) G
theorem Rps.rep {K H G ds vs} (r : Rps K H G ds vs) : ∀ n : Nat, Rps K H G (List.replicate n ds).flatten (List.replicate n vs).flatten
  | 0 => .nil
  | n + 1 => by rw [List.replicate_succ, List.replicate_succ, List.flatten_cons, List.flatten_cons]; exact r.append (Rps.rep r n)
theorem oMulL : OpD X (binaryOp .Mult) mRep := ⟨_, op_rep, fun x y H Q dx dy G QD hR px py ⟨xs, k, e1, e2, l1, l2, l, q⟩ hq => by
  subst e2; cases py
  obtain ⟨a, vs, rfl, ha, ra⟩ := e1.of hR px
  exact ⟨_, _, _, rfl, rfl, ha, l1, l2, by rw [← ra.length]; exact l, fun p hp => hq.lst hR hp (ra.rep _) q⟩⟩
theorem oSub : OpD X (binaryOp .Sub) (oI (fun _ _ => True) fun i j => .int (i - j)) := ⟨_, op_sub, sim_I0 fun i j _ _ => .int _⟩
theorem oDiv : OpD X (binaryOp .FloorDiv) (oI CDivW fun i j => .int (i / j)) := ⟨_, op_fdivW, sim_I fun i j _ _ => .int _⟩
theorem oDivN : OpD X (binaryOp .FloorDiv) (oI CDivN fun i j => .int (i.fdiv j)) := ⟨_, op_fdivN, sim_I fun i j _ _ => .int _⟩
theorem oMod : OpD X (binaryOp .Mod) (oI (fun _ j => 0 < j) fun i j => .int (i % j)) := ⟨_, op_mod, sim_I fun i j _ _ => .int _⟩
theorem oModN : OpD X (binaryOp .Mod) (oI (fun _ j => j ≠ 0) fun i j => .int (i.fmod j)) := ⟨_, op_modN, sim_I fun i j _ _ => .int _⟩
theorem oPow : OpD X (binaryOp .Pow) (oI CPow fun i j => .int (i ^ j.toNat)) := ⟨_, op_pow, sim_I fun i j _ _ => .int _⟩
theorem oShl : OpD X (binaryOp .LShift) (oI CShl fun i j => .int (i * 2 ^ j.toNat)) := ⟨_, op_shlW, sim_I fun i j _ _ => .int _⟩
theorem oAnd : OpD X (binaryOp .BitAnd) (oI (fun _ _ => True) fun i j => .int (Builtin.bitAnd i j)) := ⟨_, op_and, sim_I0 fun i j _ _ => .int _⟩
theorem oLt : OpD X (compareOp .Lt) (oI (fun _ _ => True) fun i j => .bl (decide (i < j))) := ⟨_, op_lt, sim_I0 fun i j _ _ => .bl _⟩
theorem oLe : OpD X (compareOp .LtE) (oI (fun _ _ => True) fun i j => .bl (decide (i ≤ j))) := ⟨_, op_le, sim_I0 fun i j _ _ => .bl _⟩
theorem oGt : OpD X (compareOp .Gt) (oI (fun _ _ => True) fun i j => .bl (decide (j < i))) := ⟨_, op_gt, sim_I0 fun i j _ _ => .bl _⟩
theorem oGe : OpD X (compareOp .GtE) (oI (fun _ _ => True) fun i j => .bl (decide (j ≤ i))) := ⟨_, op_ge, sim_I0 fun i j _ _ => .bl _⟩
end DL

namespace DL
open PySem PySem.Spec PyProof.Rows L2
open PySem.W (Frag)
variable {X : Cx} {W : WX} {e a b c : Expr} {es : List Expr} {ta tb tc : TED} {t u : TAD} {tA tB' : TTD} {pos : Pos} {rest : List Expr}

/-! ### scalars -/
def D.sc : D → Option V
  | .non => some .non
  | .bl b => some (.bl b)
  | .int i => some (.int i)
  | .str x => some (.str x)
  | _ => none
def scs : List D → Option (List V)
  | [] => some []
  | d :: r => match d.sc, scs r with
    | some v, some vs => some (v :: vs)
    | _, _ => none
theorem Rp.sc {K H G d v u} (p : Rp K H G d v) (h : d.sc = some u) : v = u := by
  cases d <;> simp [D.sc] at h <;> subst h <;> cases p <;> rfl
theorem Rps.scs {K H G} : ∀ {ds : List D} {vs us : List V}, Rps K H G ds vs → DL.scs ds = some us → vs = us
  | [], _, _, .nil, h => by simp [DL.scs] at h; exact h.symm
  | d :: ds, _, us, .cons p r, h => by
    unfold DL.scs at h
    split at h
    · rename_i v' vs' h1 h2
      cases h
      rw [p.sc h1, Rps.scs r h2]
    · cases h
theorem sc_flat {d : D} {u : V} (h : d.sc = some u) : flatV u = true := by
  cases d <;> simp [D.sc] at h <;> subst h <;> rfl
theorem scs_flat : ∀ {ds : List D} {us : List V}, scs ds = some us → us.all flatV = true
  | [], us, h => by simp [scs] at h; subst h; rfl
  | d :: ds, us, h => by
    unfold scs at h
    split at h
    · rename_i v' vs' h1 h2
      cases h
      simp [sc_flat h1]
      simpa using scs_flat h2
    · cases h
def eSc (neg : Bool) : D → D → HH → QD → Prop := fun x y G Q => ∃ u v, x.sc = some u ∧ y.sc = some v ∧ scal u v = true ∧ Q (.bl (if neg then !decide (u = v) else decide (u = v))) G
theorem oEqS : OpD X (compareOp .Eq) (eSc false) := ⟨_, op_eq, fun x y H Q dx dy G QD hR px py ⟨u, v, e1, e2, s, q⟩ hq => by
  cases px.sc e1; cases py.sc e2
  exact ⟨s, hq.now hR (.bl _) q⟩⟩
theorem oNeS : OpD X (compareOp .NotEq) (eSc true) := ⟨_, op_ne, fun x y H Q dx dy G QD hR px py ⟨u, v, e1, e2, s, q⟩ hq => by
  cases px.sc e1; cases py.sc e2
  exact ⟨s, hq.now hR (.bl _) q⟩⟩

/-! ### data of any depth -/
mutual
def D.py : D → Option PyData
  | .non => some .none
  | .bl b => some (.bool b)
  | .int i => some (.int i)
  | .str x => some (.str x)
  | .tup xs => (pys xs).map .tuple
  | .lst xs => (pys xs).map .list
  | .wls xs => (pys xs).map .list
  | .obj _ _ _ => none
  | .dct _ _ => none
  | .ref _ => none
  | .ty _ => none
def pys : List D → Option (List PyData)
  | [] => some []
  | d :: r => match d.py, pys r with
    | some p, some ps => some (p :: ps)
    | _, _ => none
end
mutual
theorem Rp.dp {K H G} : ∀ {d v p}, Rp K H G d v → d.py = some p → Dp K H v p
  | _, _, _, .non, h => by simp [D.py] at h; subst h; exact .non
  | _, _, _, .bl b, h => by simp [D.py] at h; subst h; exact .bl b
  | _, _, _, .int i, h => by simp [D.py] at h; subst h; exact .int i
  | _, _, _, .str x, h => by simp [D.py] at h; subst h; exact .str x
  | _, _, _, .ty n, h => by simp [D.py] at h
  | _, _, _, .ref a, h => by simp [D.py] at h
  | _, _, _, .tup f r, h => by
    unfold D.py at h
    cases e : pys _ with
    | none => rw [e] at h; simp at h
    | some ps => rw [e] at h; simp at h; subst h; exact .tup f.sq (Rps.dp r e)
  | _, _, _, .lst f g r, h => by
    unfold D.py at h
    cases e : pys _ with
    | none => rw [e] at h; simp at h
    | some ps => rw [e] at h; simp at h; subst h; exact .lst (SqL.of f) (Rps.dp r e)
  | _, _, _, .wls f r, h => by
    unfold D.py at h
    cases e : pys _ with
    | none => rw [e] at h; simp at h
    | some ps => rw [e] at h; simp at h; subst h; exact .lst f.sq (Rps.dp r e)
  | _, _, _, .obj _ _ _ _, h => by simp [D.py] at h
  | _, _, _, .dK _ _ _ _, h => by simp [D.py] at h
  | _, _, _, .dT _ _ _ _, h => by simp [D.py] at h
theorem Rps.dp {K H G} : ∀ {ds vs ps}, Rps K H G ds vs → pys ds = some ps → DpAll K H vs ps
  | _, _, _, .nil, h => by simp [pys] at h; subst h; exact .nil
  | _, _, _, .cons p r, h => by
    unfold pys at h
    split at h
    · rename_i p1 ps1 h1 h2
      cases h
      exact .cons (Rp.dp p h1) (Rps.dp r h2)
    · cases h
end
/-- data, or a list that may change, of data -/
inductive Py (G : HH) : D → PyData → Prop
  | of {d : D} {p : PyData} : d.py = some p → Py G d p
  | ref {a : Addr} {ds : List D} {ps : List PyData} : G a = some (.lst ds) → pys ds = some ps → Py G (.ref a) (.list ps)
theorem Py.dp {K H G d v p} (h : Py G d p) (r : RelH K H G) (q : Rp K H G d v) : Dp K H v p := by
  cases h with
  | of e => exact q.dp e
  | ref e1 e2 => cases q with | ref a => obtain ⟨vs, h, z⟩ := r _ _ e1; exact .lst (SqL.of h) (z.dp e2)
def ePy (neg : Bool) : D → D → HH → QD → Prop := fun x y G Q => ∃ d e, Py G x d ∧ Py G y e ∧ SeqAt.shaped d = true ∧ SeqAt.shaped e = true ∧ Q (.bl (if neg then !PyData.eqv d e else PyData.eqv d e)) G
theorem oEqP (hu : X.A.units + 64 < cLine) : OpD X (compareOp .Eq) (ePy false) := ⟨_, op_eqD hu, fun x y H Q dx dy G QD hR px py ⟨d, e, e1, e2, s1, s2, q⟩ hq => ⟨d, e, e1.dp hR px, e2.dp hR py, s1, s2, hq.now hR (.bl _) q⟩⟩
theorem oNeP (hu : X.A.units + 64 < cLine) : OpD X (compareOp .NotEq) (ePy true) := ⟨_, op_neD hu, fun x y H Q dx dy G QD hR px py ⟨d, e, e1, e2, s1, s2, q⟩ hq => ⟨d, e, e1.dp hR px, e2.dp hR py, s1, s2, hq.now hR (.bl _) q⟩⟩
/-- == and != of scalars or data -/
def eAny (neg : Bool) : D → D → HH → QD → Prop := fun x y G Q => eSc neg x y G Q ∨ ePy neg x y G Q
theorem oEq (hu : X.A.units + 64 < cLine) : OpD X (compareOp .Eq) (eAny false) := oEqS.or (oEqP hu)
theorem oNe (hu : X.A.units + 64 < cLine) : OpD X (compareOp .NotEq) (eAny true) := oNeS.or (oNeP hu)
/-- is None -/
def isN (neg : Bool) (ta : TED) : TED := fun σ G Q E => ta σ G (fun x G1 => ∃ k, (k = true → x = .non) ∧ (x = .non → k = true) ∧ Q (.bl (if neg then !k else k)) G1) E
theorem non_iff {K H G d v} (p : Rp K H G d v) {k : Bool} (h1 : k = true → d = .non) (h2 : d = .non → k = true) : decide (v = .non) = k := by
  by_cases e : d = .non
  · subst e; cases p; rw [h2 rfl]; simp
  · have hk : k = false := by cases k; rfl; exact absurd (h1 rfl) e
    rw [hk]
    refine decide_eq_false fun z => e ?_
    subst z; cases p; rfl
theorem de_isN {j pos'} (ha : DE X W a ta) : DE X W (.Compare a [.Is] [.Constant .none j pos'] pos) (isN false ta) :=
  PE.imp (pe_cmp (pc_isN ha)) fun σ H Q ⟨σD, G, QD, E, hR, hS, q, hq, he⟩ => ⟨σD, G, _, E, hR, hS, q, fun v1 H1 d1 G1 s1 r1 p1 ⟨k, k1, k2, q1⟩ => by
    dsimp only; rw [non_iff p1 k1 k2]; exact hq _ _ _ _ s1 r1 (.bl _) q1, he⟩
theorem de_notN {j pos'} (ha : DE X W a ta) : DE X W (.Compare a [.IsNot] [.Constant .none j pos'] pos) (isN true ta) :=
  PE.imp (pe_cmp (pc_notN ha)) fun σ H Q ⟨σD, G, QD, E, hR, hS, q, hq, he⟩ => ⟨σD, G, _, E, hR, hS, q, fun v1 H1 d1 G1 s1 r1 p1 ⟨k, k1, k2, q1⟩ => by
    dsimp only; rw [non_iff p1 k1 k2]; exact hq _ _ _ _ s1 r1 (.bl _) q1, he⟩
theorem dt_isN {j pos'} (ha : DE X W a ta) : DT X W (.Compare a [.Is] [.Constant .none j pos'] pos) (dTest (isN false ta)) :=
  PT.imp (pt_cmp (pc_isN ha)) (lft_test fun σ H Q ⟨σD, G, QD, E, hR, hS, q, hq, he⟩ => ⟨σD, G, _, E, hR, hS, q, fun v1 H1 d1 G1 s1 r1 p1 ⟨k, k1, k2, q1⟩ => by
    dsimp only; rw [non_iff p1 k1 k2]; exact hq _ _ _ _ s1 r1 (.bl _) q1, he⟩)
theorem dt_notN {j pos'} (ha : DE X W a ta) : DT X W (.Compare a [.IsNot] [.Constant .none j pos'] pos) (dTest (isN true ta)) :=
  PT.imp (pt_cmp (pc_notN ha)) (lft_test fun σ H Q ⟨σD, G, QD, E, hR, hS, q, hq, he⟩ => ⟨σD, G, _, E, hR, hS, q, fun v1 H1 d1 G1 s1 r1 p1 ⟨k, k1, k2, q1⟩ => by
    dsimp only; rw [non_iff p1 k1 k2]; exact hq _ _ _ _ s1 r1 (.bl _) q1, he⟩)

/-! ### in -/
def iSeq (neg : Bool) : D → D → HH → QD → Prop := fun x y G Q => ∃ xs u us, Sq G y xs ∧ x.sc = some u ∧ scs xs = some us ∧ Q (.bl (if neg then !inV u us else inV u us)) G
def iStr (neg : Bool) : D → D → HH → QD → Prop := fun x y G Q => ∃ i j, x = .str i ∧ y = .str j ∧ Q (.bl (if neg then !(!(Builtin.Str.occurrences j i 0 j.length 1).isEmpty) else !(Builtin.Str.occurrences j i 0 j.length 1).isEmpty)) G
theorem oInSeq : OpD X (compareOp .In) (iSeq false) := ⟨_, op_in_seq, fun x y H Q dx dy G QD hR px py ⟨xs, u, us, s, e1, e2, q⟩ hq => by
  obtain ⟨p, vs, rfl, h, r⟩ := s.of hR py
  cases px.sc e1; cases r.scs e2
  exact ⟨p, _, rfl, h, sc_flat e1, scs_flat e2, hq.now hR (.bl _) q⟩⟩
theorem oNotInSeq : OpD X (compareOp .NotIn) (iSeq true) := ⟨_, op_notIn_seq, fun x y H Q dx dy G QD hR px py ⟨xs, u, us, s, e1, e2, q⟩ hq => by
  obtain ⟨p, vs, rfl, h, r⟩ := s.of hR py
  cases px.sc e1; cases r.scs e2
  exact ⟨p, _, rfl, h, sc_flat e1, scs_flat e2, hq.now hR (.bl _) q⟩⟩
theorem oInStr : OpD X (compareOp .In) (iStr false) := ⟨_, op_in_str, fun x y H Q dx dy G QD hR px py ⟨i, j, e1, e2, q⟩ hq => by
  subst e1; subst e2; cases px; cases py
  exact ⟨_, _, rfl, rfl, hq.now hR (.bl _) q⟩⟩
theorem oNotInStr : OpD X (compareOp .NotIn) (iStr true) := ⟨_, op_notin_str, fun x y H Q dx dy G QD hR px py ⟨i, j, e1, e2, q⟩ hq => by
  subst e1; subst e2; cases px; cases py
  exact ⟨_, _, rfl, rfl, hq.now hR (.bl _) q⟩⟩
def iAny (neg : Bool) : D → D → HH → QD → Prop := fun x y G Q => iSeq neg x y G Q ∨ iStr neg x y G Q
theorem oIn : OpD X (compareOp .In) (iAny false) := oInSeq.or oInStr
theorem oNotIn : OpD X (compareOp .NotIn) (iAny true) := oNotInSeq.or oNotInStr

/-! ### and, or, not, if else -/
def dAndV (ta tb : TED) : TED := fun σ G Q E => ta σ G (fun x G1 => ∃ c, x = .bl c ∧ if c = true then tb σ G1 Q E else Q (.bl false) G1) E
def dOrV (ta tb : TED) : TED := fun σ G Q E => ta σ G (fun x G1 => ∃ c, x = .bl c ∧ if c = true then Q (.bl true) G1 else tb σ G1 Q E) E
def dNotV (ta : TED) : TED := fun σ G Q E => ta σ G (fun x G1 => ∃ c, x = .bl c ∧ Q (.bl (!c)) G1) E
theorem de_one {op} (h : DE X W a ta) : DE X W (.BoolOp op [a] pos) ta := pe_one h
theorem de_and (ha : DE X W a ta) (hb : DE X W (.BoolOp .And (b :: rest) pos) tb) : DE X W (.BoolOp .And (a :: b :: rest) pos) (dAndV ta tb) :=
  PE.imp (pe_and ha hb) fun σ H Q ⟨σD, G, QD, E, hR, hS, q, hq, he⟩ => ⟨σD, G, _, E, hR, hS, q, fun v1 H1 d1 G1 s1 r1 p1 ⟨k, e1, q1⟩ => by
    subst e1; cases p1
    refine ⟨k, rfl, ?_⟩
    cases k with
    | true => rw [if_pos rfl] at q1 ⊢; exact ⟨σD, G1, _, E, r1, hS.mono s1, q1, hq.mono s1, he.mono s1⟩
    | false => rw [if_neg Bool.false_ne_true] at q1 ⊢; exact hq _ _ _ _ s1 r1 (.bl _) q1, he⟩
theorem de_or (ha : DE X W a ta) (hb : DE X W (.BoolOp .Or (b :: rest) pos) tb) : DE X W (.BoolOp .Or (a :: b :: rest) pos) (dOrV ta tb) :=
  PE.imp (pe_or ha hb) fun σ H Q ⟨σD, G, QD, E, hR, hS, q, hq, he⟩ => ⟨σD, G, _, E, hR, hS, q, fun v1 H1 d1 G1 s1 r1 p1 ⟨k, e1, q1⟩ => by
    subst e1; cases p1
    refine ⟨k, rfl, ?_⟩
    cases k with
    | true => rw [if_pos rfl] at q1 ⊢; exact hq _ _ _ _ s1 r1 (.bl _) q1
    | false => rw [if_neg Bool.false_ne_true] at q1 ⊢; exact ⟨σD, G1, _, E, r1, hS.mono s1, q1, hq.mono s1, he.mono s1⟩, he⟩
theorem de_not (ha : DE X W a ta) : DE X W (.UnaryOp .Not a pos) (dNotV ta) :=
  PE.imp (pe_not ha) fun σ H Q ⟨σD, G, QD, E, hR, hS, q, hq, he⟩ => ⟨σD, G, _, E, hR, hS, q, fun v1 H1 d1 G1 s1 r1 p1 ⟨k, e1, q1⟩ => by
    subst e1; cases p1
    exact ⟨k, rfl, hq _ _ _ _ s1 r1 (.bl _) q1⟩, he⟩
def dAnd (t u : TTD) : TTD := fun σ G Q E => t σ G (fun c G1 => if c = true then u σ G1 Q E else Q false G1) E
def dOr (t u : TTD) : TTD := fun σ G Q E => t σ G (fun c G1 => if c = true then Q true G1 else u σ G1 Q E) E
def dNot (t : TTD) : TTD := fun σ G Q E => t σ G (fun c G1 => Q (!c) G1) E
theorem dw_and1 (ha : DT X W a tA) : DW X W (.BoolOp .And [a] pos) tA := pw_and1 ha
theorem dw_or1 (ha : DT X W a tA) : DW X W (.BoolOp .Or [a] pos) tA := pw_or1 ha
theorem dw_and (ha : DT X W a tA) (hb : DW X W (.BoolOp .And (b :: rest) pos) tB') : DW X W (.BoolOp .And (a :: b :: rest) pos) (dAnd tA tB') :=
  PW.imp (pw_and ha hb) fun σ H Q ⟨σD, G, QD, E, hR, hS, q, hq, he⟩ => ⟨σD, G, _, E, hR, hS, q, fun k H1 G1 s1 r1 q1 => by
    cases k with
    | true => rw [if_pos rfl] at q1 ⊢; exact ⟨σD, G1, _, E, r1, hS.mono s1, q1, fun b H2 G2 s2 r2 q2 => hq b H2 G2 (s1.trans s2) r2 q2, he.mono s1⟩
    | false => rw [if_neg Bool.false_ne_true] at q1 ⊢; exact hq _ _ _ s1 r1 q1, he⟩
theorem dw_or (ha : DT X W a tA) (hb : DW X W (.BoolOp .Or (b :: rest) pos) tB') : DW X W (.BoolOp .Or (a :: b :: rest) pos) (dOr tA tB') :=
  PW.imp (pw_or ha hb) fun σ H Q ⟨σD, G, QD, E, hR, hS, q, hq, he⟩ => ⟨σD, G, _, E, hR, hS, q, fun k H1 G1 s1 r1 q1 => by
    cases k with
    | true => rw [if_pos rfl] at q1 ⊢; exact hq _ _ _ s1 r1 q1
    | false => rw [if_neg Bool.false_ne_true] at q1 ⊢; exact ⟨σD, G1, _, E, r1, hS.mono s1, q1, fun b H2 G2 s2 r2 q2 => hq b H2 G2 (s1.trans s2) r2 q2, he.mono s1⟩, he⟩
theorem DW.pt {tA : TTD} (h : DW X W a tA) : DT X W a tA := PW.pt h
theorem dt_not (ha : DT X W a tA) : DT X W (.UnaryOp .Not a pos) (dNot tA) :=
  PT.imp (pt_not ha) fun σ H Q ⟨σD, G, QD, E, hR, hS, q, hq, he⟩ => ⟨σD, G, _, E, hR, hS, q, fun k H1 G1 s1 r1 q1 => hq _ _ _ s1 r1 q1, he⟩
def dIf (t : TTD) (ta tb : TED) : TED := fun σ G Q E => t σ G (fun c G1 => if c = true then ta σ G1 Q E else tb σ G1 Q E) E
theorem de_ifExp (hc : DT X W c tA) (ha : DE X W a ta) (hb : DE X W b tb) : DE X W (.IfExp c a b pos) (dIf tA ta tb) :=
  PE.imp (pe_ifExp hc ha hb) fun σ H Q ⟨σD, G, QD, E, hR, hS, q, hq, he⟩ => ⟨σD, G, _, E, hR, hS, q, fun k H1 G1 s1 r1 q1 => by
    cases k with
    | true => rw [if_pos rfl] at q1 ⊢; exact ⟨σD, G1, _, E, r1, hS.mono s1, q1, hq.mono s1, he.mono s1⟩
    | false => rw [if_neg Bool.false_ne_true] at q1 ⊢; exact ⟨σD, G1, _, E, r1, hS.mono s1, q1, hq.mono s1, he.mono s1⟩, he⟩
/-- the truth of a value -/
inductive Tru (G : HH) : D → Bool → Prop
  | non : Tru G .non false
  | bl (b : Bool) : Tru G (.bl b) b
  | int (i : Int) : Tru G (.int i) (i != 0)
  | str (x : Str) (h : x.length ≤ sizeLine) : Tru G (.str x) ((x.length : Int) != 0)
  | sq {d : D} {xs : List D} (h : Sq G d xs) : Tru G d (!xs.isEmpty)
theorem Tru.of {K H G d v k} (h : Tru G d k) (r : RelH K H G) (p : Rp K H G d v) : TruV K v H k := by
  cases h with
  | non => cases p; rfl
  | bl => cases p; rfl
  | int => cases p; rfl
  | str x h => cases p; exact ⟨h, rfl⟩
  | @sq d xs s =>
    obtain ⟨a, vs, rfl, h, q⟩ := s.of r p
    have e : (!vs.isEmpty) = !xs.isEmpty := by
      cases q <;> rfl
    rcases h with h | h
    · exact .inl ⟨vs, h, e.symm⟩
    · exact .inr (.inl ⟨vs, h, e.symm⟩)
def dTru (ta : TED) : TTD := fun σ G Q E => ta σ G (fun x G1 => ∃ k, Tru G1 x k ∧ Q k G1) E
theorem dt_tru (ha : DE X W a ta) (he : ∀ whole, isTrue a X.env whole = (do let v ← whole; standAt a.pos; holding [v] (truthy v)) := by intro _; rfl) : DT X W a (dTru ta) :=
  PT.imp (pt_truth ha he) fun σ H Q ⟨σD, G, QD, E, hR, hS, q, hq, he⟩ => ⟨σD, G, _, E, hR, hS, q, fun v1 H1 d1 G1 s1 r1 p1 ⟨k, k1, q1⟩ => ⟨k, k1.of r1 p1, hq _ _ _ s1 r1 q1⟩, he⟩

/-! ### items, slices -/
def xSq : D → D → HH → QD → Prop := fun x y G Q => ∃ xs i d, Sq G x xs ∧ y = .int i ∧ atI xs i = some d ∧ Q d G
def xStr : D → D → HH → QD → Prop := fun x y G Q => ∃ z i c, x = .str z ∧ y = .int i ∧ z.length ≤ sizeLine ∧ atI z.cps.toList i = some c ∧ Q (.str ⟨#[c]⟩) G
def xAny : D → D → HH → QD → Prop := fun x y G Q => xSq x y G Q ∨ xStr x y G Q
theorem Rps.atI {K H G ds vs i d} (r : Rps K H G ds vs) (h : L2.atI ds i = some d) : ∃ v, L2.atI vs i = some v ∧ Rp K H G d v := by
  unfold L2.atI at h ⊢
  rw [r.length] at h
  cases e : ixN vs.length i with
  | none => rw [e] at h; cases h
  | some j =>
    rw [e] at h
    exact r.get h
theorem sim_ix {K : Frag} : OpSim K (rIx K) xAny := fun x y H Q dx dy G QD hR px py q hq => by
  rcases q with ⟨xs, i, d, s, e2, h, q⟩ | ⟨z, i, c, e1, e2, l, h, q⟩
  · subst e2; cases py
    obtain ⟨p, vs, rfl, hs, r⟩ := s.of hR px
    obtain ⟨v, hv, rv⟩ := r.atI h
    rcases hs with hs | hs
    · exact .inl ⟨p, vs, i, v, rfl, rfl, hs, hv, hq.now hR rv q⟩
    · exact .inr (.inl ⟨p, vs, i, v, rfl, rfl, hs, hv, hq.now hR rv q⟩)
  · subst e1; subst e2; cases px; cases py
    exact .inr (.inr ⟨_, _, c, rfl, rfl, l, h, hq.now hR (.str _) q⟩)
theorem de_ix (ha : DE X W a ta) (hb : DE X W b tb) (hs : PlainIx b := by exact fun _ _ => rfl) : DE X W (.Subscript a b pos) (dOp xAny ta tb) :=
  PE.imp (pe_ix ix_seq ha hb hs) fun _ _ _ => lft_op sim_ix
def dcut (xs : List D) (lo hi : Option Int) : List D := (xs.drop (HT.sIx xs.length 0 lo)).take (HT.sIx xs.length xs.length hi - HT.sIx xs.length 0 lo)
theorem Rps.cut {K H G ds vs} (r : Rps K H G ds vs) (lo hi : Option Int) : Rps K H G (dcut ds lo hi) (cutV vs lo hi) := by
  unfold dcut cutV
  rw [r.length]
  exact (r.drop _).take _
abbrev TOD := SD → HH → (Option Int → HH → Prop) → ED → Prop
def lftO (K : Frag) (W : WX) (t : TOD) : TO := fun σ H Q => ∃ σD G QD E, RelH K H G ∧ SRp K H G σD σ ∧ t σD G QD E ∧ (∀ o H' G', Stp H G H' G' → RelH K H' G' → QD o G' → Q o H') ∧ Exs K W σ H G E
def DO (X : Cx) (W : WX) (e : Option Expr) (t : TOD) : Prop := PO X e (lftO X.K W t)
theorem PO.imp {X : Cx} {e : Option Expr} {t t' : TO} (h : PO X e t) (i : ∀ σ H Q, t' σ H Q → t σ H Q) : PO X e t' := ⟨fun pins s σ H Q I q => h.run pins s σ H Q I (i σ H Q q)⟩
def dNoPart : TOD := fun _ G Q _ => Q none G
def dPart (ta : TED) : TOD := fun σ G Q E => ta σ G (fun x G1 => ∃ i, x = .int i ∧ Q (some i) G1) E
theorem do_none : DO X W none dNoPart := PO.imp po_none fun σ H Q ⟨σD, G, QD, E, hR, hS, q, hq, he⟩ => hq _ _ _ Stp.refl hR q
theorem do_some (ha : DE X W a ta) : DO X W (some a) (dPart ta) := PO.imp (po_some ha) fun σ H Q ⟨σD, G, QD, E, hR, hS, q, hq, he⟩ =>
  ⟨σD, G, _, E, hR, hS, q, fun v1 H1 d1 G1 s1 r1 p1 ⟨i, e, q1⟩ => by subst e; cases p1; exact ⟨i, rfl, hq _ _ _ s1 r1 q1⟩, he⟩
/-- .. a list, whether it may change or not -/
inductive LsW (G : HH) : D → List D → Prop
  | lst (xs : List D) : LsW G (.lst xs) xs
  | wls (xs : List D) : LsW G (.wls xs) xs
  | ref {p : Addr} {xs : List D} : G p = some (.lst xs) → LsW G (.ref p) xs
theorem LsW.of {K H G d xs v} (s : LsW G d xs) (r : RelH K H G) (p : Rp K H G d v) : ∃ a vs, v = .ref a ∧ SqL K H a vs ∧ Rps K H G xs vs := by
  cases s with
  | lst => cases p with | lst h g q => exact ⟨_, _, rfl, SqL.of h, q⟩
  | wls => cases p with | wls h q => exact ⟨_, _, rfl, h.sq, q⟩
  | ref e => cases p with | ref a => obtain ⟨vs, h, q⟩ := r _ _ e; exact ⟨_, vs, rfl, SqL.of h, q⟩
/-- a slice: a list's, a tuple's, a text's -/
def slD : D → Option Int → Option Int → HH → QD → Prop := fun x lo hi G Q => (∃ xs, LsW G x xs ∧ Q (.lst (dcut xs lo hi)) G) ∨ (∃ xs, x = .tup xs ∧ Q (.tup (dcut xs lo hi)) G) ∨ ∃ z, x = .str z ∧ z.length ≤ sizeLine ∧ Q (.str (cutS z lo hi)) G
def dSl (ta : TED) (tl th : TOD) : TED := fun σ G Q E => ta σ G (fun x G1 => tl σ G1 (fun lo G2 => th σ G2 (fun hi G3 => slD x lo hi G3 Q) E) E) E
theorem cutV_whole {vs : List V} {lo hi} (h1 : HT.sIx vs.length 0 lo = 0) (h2 : HT.sIx vs.length vs.length hi = vs.length) : cutV vs lo hi = vs := by
  unfold cutV
  rw [h1, h2]
  simp
theorem de_sl {lo hi : Option Expr} {tl th : TOD} {p2} (ha : DE X W a ta) (hl : DO X W lo tl) (hh : DO X W hi th) : DE X W (.Subscript a (.Slice lo hi none p2) pos) (dSl ta tl th) :=
  PE.imp (pe_slice ((sl_list.or sl_tupA).or sl_str) ha hl hh) fun σ H Q ⟨σD, G, QD, E, hR, hS, q, hq, he⟩ => by
    refine ⟨σD, G, _, E, hR, hS, q, fun v1 H1 d1 G1 s1 r1 p1 q1 => ?_, he⟩
    refine ⟨σD, G1, _, E, r1, hS.mono s1, q1, fun o2 H2 G2 s2 r2 q2 => ?_, he.mono s1⟩
    refine ⟨σD, G2, _, E, r2, hS.mono (s1.trans s2), q2, fun o3 H3 G3 s3 r3 q3 => ?_, he.mono (s1.trans s2)⟩
    have p3 := (p1.mono s2).mono s3
    have hq3 := hq.mono ((s1.trans s2).trans s3)
    rcases q3 with ⟨xs, s, q3⟩ | ⟨xs, hx, q3⟩ | ⟨z, hx, l, q3⟩
    · obtain ⟨p, vs, rfl, hL, r⟩ := s.of r3 p3
      exact .inl (.inl ⟨p, vs, rfl, hL, fun q hq' => hq3.lst r3 hq' (r.cut _ _) q3⟩)
    · subst hx
      cases p3 with
      | tup f r =>
        refine .inl (.inr ⟨_, _, rfl, f.sq, fun hw => ?_, fun _ p hp => hq3.tup r3 hp (r.cut _ _) q3⟩)
        have e := cutV_whole hw.1 hw.2
        refine hq3.now r3 (.tup f ?_) q3
        have := r.cut o2 o3
        rw [e] at this
        exact this
    · subst hx; cases p3
      exact .inr ⟨_, rfl, l, hq3.now r3 (.str _) q3⟩
end DL

namespace DL
open PySem PySem.Spec PyProof.Rows L2
open PySem.W (Frag)
variable {X : Cx} {W : WX} {e a b c : Expr} {es : List Expr} {ta tb tc : TED} {t u : TAD} {tA tB' : TTD} {pos : Pos} {rest : List Expr}

/-! ### built-in functions by values -/
abbrev RCD := List D → HH → QD → Prop
def CallSim (K : Frag) (r : List V → Hp → VK → Prop) (rD : RCD) : Prop := ∀ xs H Q ds G QD, RelH K H G → Rps K H G ds xs → rD ds G QD → Ct K H G Q QD → r xs H Q
def CallD (X : Cx) (f : Value) (rD : RCD) : Prop := ∃ r, CallR X f r ∧ CallSim X.K r rD
theorem CallD.or {f r r'} (h : CallD X f r) (h' : CallD X f r') : CallD X f (fun x G Q => r x G Q ∨ r' x G Q) :=
  let ⟨_, a1, a2⟩ := h; let ⟨_, b1, b2⟩ := h'
  ⟨_, a1.or b1, fun xs H Q ds G QD hR hp q hq => q.elim (fun z => .inl (a2 _ _ _ _ _ _ hR hp z hq)) fun z => .inr (b2 _ _ _ _ _ _ hR hp z hq)⟩
def dCB (rD : RCD) (t : TAD) : TED := fun σ G Q E => t σ G (fun ds G1 => rD ds G1 Q) E
theorem lft_cb {K : Frag} {r rD σ H Q} (sim : CallSim K r rD) (h : lft K W (dCB rD t) σ H Q) : tCB r (lftA K W t) σ H Q := by
  obtain ⟨σD, G, QD, E, hR, hS, ht, hq, he⟩ := h
  exact ⟨σD, G, _, E, hR, hS, ht, fun vs H1 ds G1 s1 r1 p1 q1 => sim _ _ _ _ _ _ r1 p1 q1 (hq.mono s1), he⟩
theorem de_callB {id : String} {rD : RCD} {x : Str} {p : Pos} (hc : CallD X (.builtin id) rD) (hg : Gl X x) (hm : X.mg x = none) (hv : bootBuiltins x = some (.builtin id)) (ha : DA X W (e :: es) t) (hn : x ≠ "__name__" := by decide) (hdb : (x == ("__debug__" : Str)) = false := by decide)
    (he : starEach (e :: es) X.env = (false, eval e X.env) :: starEach es X.env := by rfl) (hpl : (backTo pos (starEach es X.env)).any (·.1) = false := by rfl) : DE X W (.Call (.Name x p) (e :: es) [] pos) (dCB rD t) :=
  let ⟨_, h1, h2⟩ := hc; PE.imp (pe_callB h1 hg hm hv ha hn hdb he hpl) fun _ _ _ => lft_cb h2
theorem de_callTy {T : String} {rD : RCD} {x : Str} {p : Pos} (hc : CallD X (.type T) rD) (hg : Gl X x) (hm : X.mg x = none) (hv : bootBuiltins x = some (.type T)) (ha : DA X W (e :: es) t) (hn : x ≠ "__name__" := by decide) (hdb : (x == ("__debug__" : Str)) = false := by decide)
    (he : starEach (e :: es) X.env = (false, eval e X.env) :: starEach es X.env := by rfl) (hpl : (backTo pos (starEach es X.env)).any (·.1) = false := by rfl) : DE X W (.Call (.Name x p) (e :: es) [] pos) (dCB rD t) :=
  let ⟨_, h1, h2⟩ := hc; PE.imp (pe_callTy h1 hg hm hv ha hn hdb he hpl) fun _ _ _ => lft_cb h2
theorem rps1 {K H G d xs} (h : Rps K H G [d] xs) : ∃ v, xs = [v] ∧ Rp K H G d v := by
  cases h with | cons a r => cases r; exact ⟨_, rfl, a⟩
theorem rps2 {K H G d e xs} (h : Rps K H G [d, e] xs) : ∃ v w, xs = [v, w] ∧ Rp K H G d v ∧ Rp K H G e w := by
  cases h with | cons a r => obtain ⟨w, rfl, b⟩ := rps1 r; exact ⟨_, w, rfl, a, b⟩
/-- a rule on one value -/
def c1 (r : D → HH → QD → Prop) : RCD := fun ds G Q => ∃ x, ds = [x] ∧ r x G Q
def c2 (r : D → D → HH → QD → Prop) : RCD := fun ds G Q => ∃ x y, ds = [x, y] ∧ r x y G Q
def kLenS : D → HH → QD → Prop := fun x G Q => ∃ xs, Sq G x xs ∧ Q (.int xs.length) G
def kLenT : D → HH → QD → Prop := fun x G Q => ∃ z, x = .str z ∧ z.length ≤ sizeLine ∧ Q (.int z.length) G
theorem cLenS : CallD X (.builtin "len") (c1 kLenS) := ⟨_, call_len_seq, fun xs H Q ds G QD hR hp ⟨x, e, xs', s, q⟩ hq => by
  subst e
  obtain ⟨v, rfl, p⟩ := rps1 hp
  obtain ⟨a, vs, rfl, h, r⟩ := s.of hR p
  exact ⟨a, vs, rfl, h, by rw [← r.length]; exact hq.now hR (.int _) q⟩⟩
theorem cLenT : CallD X (.builtin "len") (c1 kLenT) := ⟨_, call_len_str, fun xs H Q ds G QD hR hp ⟨x, e, z, ez, l, q⟩ hq => by
  subst e
  obtain ⟨v, rfl, p⟩ := rps1 hp
  subst ez
  cases p
  exact ⟨_, rfl, l, hq.now hR (.int _) q⟩⟩
def kLen : RCD := fun ds G Q => c1 kLenS ds G Q ∨ c1 kLenT ds G Q
theorem cLen : CallD X (.builtin "len") kLen := cLenS.or cLenT
def kI (g : Int → D) : D → HH → QD → Prop := fun x G Q => ∃ i, x = .int i ∧ Q (g i) G
def kAbs : RCD := c1 (kI fun i => .int (i.natAbs : Int))
theorem cAbs : CallD X (.builtin "abs") kAbs := ⟨_, call_abs, fun xs H Q ds G QD hR hp ⟨x, e, i, ei, q⟩ hq => by
  subst e
  obtain ⟨v, rfl, p⟩ := rps1 hp
  subst ei
  cases p
  refine ⟨i, rfl, hq.now hR (d := .int (i.natAbs : Int)) ?_ q⟩
  have : (if i < 0 then -i else i) = (i.natAbs : Int) := by split <;> omega
  rw [this]
  exact .int _⟩
def k2I (g : Int → Int → D) : D → D → HH → QD → Prop := fun x y G Q => ∃ i j, x = .int i ∧ y = .int j ∧ Q (g i j) G
def kMax2 : RCD := c2 (k2I fun i j => .int (max i j))
def kMin2 : RCD := c2 (k2I fun i j => .int (min i j))
theorem cMax2 (hc : X.calm = true) : CallD X (.builtin "max") kMax2 := ⟨_, call_max2 hc, fun xs H Q ds G QD hR hp ⟨x, y, e, i, j, ei, ej, q⟩ hq => by
  subst e
  obtain ⟨v, w, rfl, p, p'⟩ := rps2 hp
  subst ei; subst ej
  cases p; cases p'
  refine ⟨i, j, rfl, hq.now hR (d := .int (max i j)) ?_ q⟩
  have : (if j > i then j else i) = max i j := by split <;> omega
  rw [this]
  exact .int _⟩
theorem cMin2 (hc : X.calm = true) : CallD X (.builtin "min") kMin2 := ⟨_, call_min2 hc, fun xs H Q ds G QD hR hp ⟨x, y, e, i, j, ei, ej, q⟩ hq => by
  subst e
  obtain ⟨v, w, rfl, p, p'⟩ := rps2 hp
  subst ei; subst ej
  cases p; cases p'
  refine ⟨i, j, rfl, hq.now hR (d := .int (min i j)) ?_ q⟩
  have : (if j < i then j else i) = min i j := by split <;> omega
  rw [this]
  exact .int _⟩
def kInt : RCD := c1 fun x G Q => (∃ i, x = .int i ∧ Q (.int i) G) ∨ ∃ k, x = .bl k ∧ Q (.int (if k then 1 else 0)) G
theorem cInt : CallD X (.type "int") kInt := ⟨_, call_int1, fun xs H Q ds G QD hR hp ⟨x, e, q⟩ hq => by
  subst e
  obtain ⟨v, rfl, p⟩ := rps1 hp
  rcases q with ⟨i, ei, q⟩ | ⟨i, ei, q⟩ <;> subst ei <;> cases p
  · exact .inl ⟨i, rfl, hq.now hR (.int _) q⟩
  · exact .inr ⟨i, rfl, hq.now hR (.int _) q⟩⟩
def kBool : RCD := c1 fun x G Q => (∃ i, x = .int i ∧ Q (.bl (i != 0)) G) ∨ ∃ k, x = .bl k ∧ Q (.bl k) G
theorem cBool : CallD X (.type "bool") kBool := ⟨_, call_bool1, fun xs H Q ds G QD hR hp ⟨x, e, q⟩ hq => by
  subst e
  obtain ⟨v, rfl, p⟩ := rps1 hp
  rcases q with ⟨i, ei, q⟩ | ⟨i, ei, q⟩ <;> subst ei <;> cases p
  · exact .inl ⟨i, rfl, hq.now hR (.bl _) q⟩
  · exact .inr ⟨i, rfl, hq.now hR (.bl _) q⟩⟩
def kStr : RCD := c1 fun x G Q => ∃ i, x = .int i ∧ i.natAbs.log2 < 1920 ∧ Q (.str (toString i)) G
theorem cStr : CallD X (.type "str") kStr := ⟨_, call_str_int, fun xs H Q ds G QD hR hp ⟨x, e, i, ei, l, q⟩ hq => by
  subst e
  obtain ⟨v, rfl, p⟩ := rps1 hp
  subst ei; cases p
  exact ⟨i, rfl, l, hq.now hR (.str _) q⟩⟩
def kTuple : RCD := c1 fun x G Q => ∃ xs, Sq G x xs ∧ Q (.tup xs) G
theorem cTuple : CallD X (.type "tuple") kTuple := ⟨_, call_tuple_of, fun xs H Q ds G QD hR hp ⟨x, e, xs', s, q⟩ hq => by
  subst e
  obtain ⟨v, rfl, p⟩ := rps1 hp
  cases s with
  | tup => cases p with | tup f r => exact ⟨_, _, rfl, .inr ⟨f.sq, hq.now hR (.tup f r) q⟩⟩
  | lst => cases p with | lst h g r => exact ⟨_, _, rfl, .inl ⟨SqL.of h, fun l hl => hq.tup hR hl r q⟩⟩
  | wls => cases p with | wls h r => exact ⟨_, _, rfl, .inl ⟨h.sq, fun l hl => hq.tup hR hl r q⟩⟩
  | ref eg => cases p with | ref a => obtain ⟨vs, h, r⟩ := hR _ _ eg; exact ⟨_, _, rfl, .inl ⟨SqL.of h, fun l hl => hq.tup hR hl r q⟩⟩⟩
/-- list(..): a frozen copy -/
def kList : RCD := c1 fun x G Q => ∃ xs, Sq G x xs ∧ Q (.lst xs) G
theorem cList : CallD X (.type "list") kList := ⟨_, call_list_of, fun xs H Q ds G QD hR hp ⟨x, e, xs', s, q⟩ hq => by
  subst e
  obtain ⟨v, rfl, p⟩ := rps1 hp
  obtain ⟨a, vs, rfl, h, r⟩ := s.of hR p
  exact ⟨a, vs, rfl, h, fun l hl => hq.lst hR hl r q⟩⟩
/-- .. a copy that may change -/
def kListM : RCD := c1 fun x G Q => ∃ xs, Sq G x xs ∧ ∀ p, G p = none → Q (.ref p) (gput G p (.lst xs))
theorem cListM : CallD X (.type "list") kListM := ⟨_, call_list_of, fun xs H Q ds G QD hR hp ⟨x, e, xs', s, q⟩ hq => by
  subst e
  obtain ⟨v, rfl, p⟩ := rps1 hp
  obtain ⟨a, vs, rfl, h, r⟩ := s.of hR p
  exact ⟨a, vs, rfl, h, fun l hl => hq _ _ _ _ (Stp.newM (od := .lst xs') hl) (hR.newM (od := .lst xs') hl ⟨vs, upd_same, r.mono (Stp.newM hl)⟩) (.ref l) (q l (hR.free hl))⟩⟩
def kSum : RCD := c1 fun x G Q => ∃ ns : List Int, LsW G x (ns.map D.int) ∧ Q (.int ns.sum) G
theorem cSum (hc : X.calm = true) : CallD X (.builtin "sum") kSum := ⟨_, cr_sum hc, fun xs H Q ds G QD hR hp ⟨x, e, ns, s, q⟩ hq => by
  subst e
  obtain ⟨v, rfl, p⟩ := rps1 hp
  obtain ⟨a, vs, rfl, h, r⟩ := s.of hR p
  rw [r.ints] at h
  exact ⟨a, ns, rfl, h, hq.now hR (.int _) q⟩⟩
def kAny : RCD := c1 fun x G Q => ∃ bs : List Bool, LsW G x (bs.map D.bl) ∧ Q (.bl (bs.any id)) G
theorem cAny (hc : X.calm = true) : CallD X (.builtin "any") kAny := ⟨_, cr_any hc, fun xs H Q ds G QD hR hp ⟨x, e, ns, s, q⟩ hq => by
  subst e
  obtain ⟨v, rfl, p⟩ := rps1 hp
  obtain ⟨a, vs, rfl, h, r⟩ := s.of hR p
  rw [r.bls] at h
  exact ⟨a, ns, rfl, h, hq.now hR (.bl _) q⟩⟩
def kAll : RCD := c1 fun x G Q => ∃ bs : List Bool, LsW G x (bs.map D.bl) ∧ Q (.bl (bs.all id)) G
theorem cAll (hc : X.calm = true) : CallD X (.builtin "all") kAll := ⟨_, cr_all hc, fun xs H Q ds G QD hR hp ⟨x, e, ns, s, q⟩ hq => by
  subst e
  obtain ⟨v, rfl, p⟩ := rps1 hp
  obtain ⟨a, vs, rfl, h, r⟩ := s.of hR p
  rw [r.bls] at h
  exact ⟨a, ns, rfl, h, hq.now hR (.bl _) q⟩⟩
/-- repr of data -/
def Shw (d : PyData) : Prop := d.showable = true ∧ SeqAt.shaped d = true ∧ d.shown.length ≤ sizeLine
theorem call_reprD (hg : X.A.guards = some []) (hu : X.A.units + 70 < cLine) : CallR X (.builtin "repr") (fun xs H Q => ∃ v d, xs = [v] ∧ Dp X.K H v d ∧ Shw d ∧ Q (.str d.shown) H) := by
  intro pins s σ H xs us Q I r h
  obtain ⟨v, d, rfl, hd, ⟨hs, hsh, hz⟩, q⟩ := h
  obtain ⟨u, rfl, ru⟩ := vals1 r
  cases hd with
  | non =>
    cases ru
    simp only [PyData.shown] at q
    exact PySem.P.repr_of_none ⟨.str _, H, I.tok _, ⟨_, rfl⟩, q⟩
  | bl b =>
    cases ru
    simp only [PyData.shown] at q
    exact PySem.P.repr_of_bool ⟨.str _, H, I.tok _, ⟨_, rfl⟩, q⟩
  | int i =>
    obtain ⟨t, rfl⟩ := ru
    simp only [PyData.shown] at q
    refine PySem.P.repr_of_int ?_ ⟨.str _, H, I.tok _, ⟨_, rfl⟩, q⟩
    simpa [PyData.showable] using hs
  | str x =>
    obtain ⟨t, rfl⟩ := ru
    simp only [PyData.shown] at q hz
    exact PySem.P.repr_of_str ⟨.str _, H, I.tok _, ⟨_, rfl⟩, q⟩ hz
  | @lst a xs ds h1 h2 =>
    cases ru
    obtain ⟨as, rd⟩ := Dp.reads I (.list ds) (.ref a) (.ref a) (.lst h1 h2) rfl
    have hdp := SeqAt.depth_of_shaped hsh
    exact repr_of_reads' (h₀ := s.heap) rd hs (fun z => absurd (z.symm.trans (PyData.hasDict_of_canLay _ (SeqAt.canLay_of_shaped hsh))) (by decide)) hg (by omega) (fun _ _ z => z) (fun h' u tk k => ⟨.str _, H, I.kept k, ⟨u, rfl⟩, q⟩) hz
  | @tup a xs ds h1 h2 =>
    cases ru
    obtain ⟨as, rd⟩ := Dp.reads I (.tuple ds) (.ref a) (.ref a) (.tup h1 h2) rfl
    have hdp := SeqAt.depth_of_shaped hsh
    exact repr_of_reads' (h₀ := s.heap) rd hs (fun z => absurd (z.symm.trans (PyData.hasDict_of_canLay _ (SeqAt.canLay_of_shaped hsh))) (by decide)) hg (by omega) (fun _ _ z => z) (fun h' u tk k => ⟨.str _, H, I.kept k, ⟨u, rfl⟩, q⟩) hz
def kRepr : RCD := c1 fun x G Q => ∃ d, Py G x d ∧ Shw d ∧ Q (.str d.shown) G
theorem cRepr (hg : X.A.guards = some []) (hu : X.A.units + 70 < cLine) : CallD X (.builtin "repr") kRepr := ⟨_, call_reprD hg hu, fun xs H Q ds G QD hR hp ⟨x, e, d, hd, hs, q⟩ hq => by
  subst e
  obtain ⟨v, rfl, p⟩ := rps1 hp
  exact ⟨v, d, rfl, hd.dp hR p, hs, hq.now hR (.str _) q⟩⟩

/-! ### defs -/
/-- a def's promise over data -/
abbrev SpD := List D → HH → QD → ED → Prop
def lsp (K : Frag) (sp : SpD) : Sp := fun vs H Q E => ∃ ds G QD EX, RelH K H G ∧ Rps K H G ds vs ∧ sp ds G QD EX ∧ Ct K H G Q QD ∧
  ∀ x cls d H' G', Stp H G H' G' → RelH K H' G' → XRp K H' G' x cls d → EX x G' → E cls d H'
/-- as FnOk, where no repr is under way -/
structure FnG (P : Program) (w : World) (K : Frag) (mg : Str → Option Value) (base : Heap) (k : Nat) (f : Addr) (fd : FuncData) (ps : List Str) (sp : SpD) : Prop where
  len : ∀ ds G Q E, sp ds G Q E → ds.length = ps.length
  run : ∀ (A : Around) (outer : List Env) (s : Shared) (H : Hp) (args : Args) (us : List Value) (vs : List V) (Q : VK) (E : XK), A.guards = some [] → Room k A → Env0 P w K mg base A outer s H → BindsTo s fd args (ps.zip us) → Vals vs us → lsp K sp vs H Q E →
    codeAny (model P w) A (.call (.ref f) args) (CR (L2.CX P w) outer P w H s Q E) s
theorem FnG.llen {P w K mg base k f fd ps sp} (F : FnG P w K mg base k f fd ps sp) {vs H Q E} (h : lsp K sp vs H Q E) : vs.length = ps.length := by
  obtain ⟨ds, G, QD, EX, _, r, q, _⟩ := h
  rw [← r.length]
  exact F.len _ _ _ _ q
theorem FnG.mono {P w K mg base j k f fd ps sp} (F : FnG P w K mg base j f fd ps sp) (h : j ≤ k) : FnG P w K mg base k f fd ps sp :=
  ⟨F.len, fun A outer s H args us vs Q E hg hr => F.run A outer s H args us vs Q E hg (hr.mono h)⟩
theorem FnG.imp {P w K mg base k f fd ps sp sp'} (F : FnG P w K mg base k f fd ps sp) (h : ∀ ds G Q E, sp' ds G Q E → sp ds G Q E) : FnG P w K mg base k f fd ps sp' :=
  ⟨fun ds G Q E q => F.len ds G Q E (h _ _ _ _ q), fun A outer s H args us vs Q E hg hr he hb hv ⟨ds, G, QD, EX, a1, a2, a3, a4⟩ => F.run A outer s H args us vs Q E hg hr he hb hv ⟨ds, G, QD, EX, a1, a2, h _ _ _ _ a3, a4⟩⟩
section
variable {k : Nat} {f : Addr} {fd : FuncData} {ps : List Str} {sp : SpD} {x : Str} {p : Pos}
/-- the callee runs, whatever way it was reached -/
theorem run_any {pins : List (Addr × Obj)} {σ : L2.St} {H : Hp} {s : Shared} {Q : VK} {us : List Value} {vs : List V} {args : Args} (F : FnG X.prog X.w X.K X.mg X.base k f fd ps sp) (hg : X.A.guards = some []) (hr : Room k X.A) (tk : Takes X W)
    (I : Inv X pins σ H s) (hb : BindsTo s fd args (ps.zip us)) (r : Vals vs us) (h : lsp X.K sp vs H Q (WE W σ)) : codeAny (model X.prog X.w) X.A (.call (.ref f) args) (fun r s' => match r with | .ok (.ret u) => EP X pins σ Q u s' | .ok _ => False | .error e => X.xe e s') s := by
  refine codeAny_mono (F.run X.A X.stack s H args us vs Q (WE W σ) hg hr I.env0 hb r h) fun r s' hq => ?_
  cases r with
  | error e => exact passAt tk σ pins H s e s' I hq
  | ok fl =>
    cases fl with
    | ret u => exact I.after hq
    | next => exact False.elim hq
    | brk => exact False.elim hq
    | cont => exact False.elim hq
theorem run_call {pins : List (Addr × Obj)} {σ : L2.St} {H : Hp} {s : Shared} {Q : VK} {us : List Value} {vs : List V} (F : FnG X.prog X.w X.K X.mg X.base k f fd ps sp) (hg : X.A.guards = some []) (hr : Room k X.A) (hb : Binds X.K fd ps []) (tk : Takes X W)
    (I : Inv X pins σ H s) (r : Vals vs us) (h : lsp X.K sp vs H Q (WE W σ)) : wpAny (model X.prog X.w) X.A (call (.ref f) us) (EP X pins σ Q) X.xe s := by
  have hl : us.length = ps.length := by rw [← r.length]; exact F.llen h
  have b := hb s us I.kIn (by rw [List.append_nil]; exact hl)
  rw [List.append_nil] at b
  refine wpAny_call (codeAny_mono (run_any F hg hr tk I b r h) fun r s' hq => ?_)
  cases r with
  | error e => exact hq
  | ok fl =>
    cases fl with
    | ret u => exact hq
    | next => exact False.elim hq
    | brk => exact False.elim hq
    | cont => exact False.elim hq
/-- f(e, ..) -/
def dCall (sp : SpD) (t : TAD) : TED := fun σ G Q E => t σ G (fun ds G1 => sp ds G1 Q E) E
theorem lft_call {K : Frag} {σ H Q} (h : lft K W (dCall sp t) σ H Q) : tCallS (lsp K sp) (WE W) (lftA K W t) σ H Q := by
  obtain ⟨σD, G, QD, E, hR, hS, ht, hq, he⟩ := h
  exact ⟨σD, G, _, E, hR, hS, ht, fun vs H1 ds G1 s1 r1 p1 q1 => ⟨ds, G1, QD, E, r1, p1, q1, hq.mono s1, he.mono s1⟩, he⟩
theorem de_call (F : FnG X.prog X.w X.K X.mg X.base k f fd ps sp) (hgd : X.A.guards = some []) (hr : Room k X.A) (hg : Gl X x) (hm : X.mg x = some (.ref f)) (hk : PySem.W.keepIn X.K (.ref f) = true) (hb : Binds X.K fd ps []) (tk : Takes X W)
    (ha : DA X W (e :: es) t) (hdb : (x == ("__debug__" : Str)) = false := by decide) (he : starEach (e :: es) X.env = (false, eval e X.env) :: starEach es X.env := by rfl) (hpl : (backTo pos (starEach es X.env)).any (·.1) = false := by rfl) :
    DE X W (.Call (.Name x p) (e :: es) [] pos) (dCall sp t) := by
  refine PE.imp (t := tCallS (lsp X.K sp) (WE W) (lftA X.K W t)) ⟨fun pins s σ H Q I h => ?_⟩ fun _ _ _ => lft_call
  refine wpAny_Call_Name_kw (ld_glob I hg hm ?_ hdb)
  have ha' : PA X (e :: es) (lftA X.K W t) := ha
  exact PySem.W.callWith_K (h₀ := X.base) I.ok.mod.kin hk (thn (ha'.run pos pins s σ H _ I h) fun us s1 ⟨vs, H1, I1, r, q⟩ => ⟨I1.kIn, run_call F hgd hr hb tk I1 r q⟩) he hpl
theorem de_call0 (F : FnG X.prog X.w X.K X.mg X.base k f fd ps sp) (hgd : X.A.guards = some []) (hr : Room k X.A) (hg : Gl X x) (hm : X.mg x = some (.ref f)) (hk : PySem.W.keepIn X.K (.ref f) = true) (hb : Binds X.K fd ps []) (tk : Takes X W)
    (hdb : (x == ("__debug__" : Str)) = false := by decide) : DE X W (.Call (.Name x p) [] [] pos) (dCall sp dNil) := by
  refine PE.imp (t := tCallS (lsp X.K sp) (WE W) tNil) ⟨fun pins s σ H Q I h => ?_⟩ fun σ H Q ⟨σD, G, QD, E, hR, hS, q, hq, he⟩ => ⟨[], G, QD, E, hR, .nil, q, hq, he⟩
  refine wpAny_Call_Name_kw (ld_glob I hg hm ?_ hdb)
  exact PySem.W.callWith_K0 I.kIn hk (run_call (us := []) F hgd hr hb tk I .nil h)
end
end DL

namespace DL
open PySem PySem.Spec PyProof.Rows L2
open PySem.W (Frag)
variable {X : Cx} {W : WX} {e a b c : Expr} {es : List Expr} {ta tb tc : TED} {t u : TAD} {tA tB' : TTD} {pos : Pos} {st : Stmt} {rest body : List Stmt}

/-! ### statements -/
structure EndsD where
  nx : SD → HH → Prop
  rt : QD
  bk : SD → HH → Prop := fun _ _ => False
  ct : SD → HH → Prop := fun _ _ => False
  ex : XD → SD → HH → Prop := fun _ _ _ => False
abbrev TSD := EndsD → SD → HH → Prop
def Nx (K : Frag) (H : Hp) (G : HH) (P : SD → HH → Prop) (Q : L2.St → Hp → Prop) : Prop := ∀ σ' H' σD' G', Stp H G H' G' → RelH K H' G' → SRp K H' G' σD' σ' → P σD' G' → Q σ' H'
theorem Nx.mono {K H G H' G' P Q} (s : Stp H G H' G') (h : Nx K H G P Q) : Nx K H' G' P Q := fun σ2 H2 σD2 G2 s2 r2 p2 q2 => h σ2 H2 σD2 G2 (s.trans s2) r2 p2 q2
def ExS (K : Frag) (W : WX) (H : Hp) (G : HH) (E : XD → SD → HH → Prop) : Prop := ∀ x cls d σ' σD' H' G', Stp H G H' G' → RelH K H' G' → SRp K H' G' σD' σ' → XRp K H' G' x cls d → E x σD' G' → W cls d σ' H'
theorem ExS.mono {K W H G H' G' E} (s : Stp H G H' G') (h : ExS K W H G E) : ExS K W H' G' E := fun x cls d σ2 σD2 H2 G2 s2 r2 p2 x2 e2 => h x cls d σ2 σD2 H2 G2 (s.trans s2) r2 p2 x2 e2
theorem ExS.at {K W H G E σD σ} (h : ExS K W H G E) (hS : SRp K H G σD σ) : Exs K W σ H G (fun x G => E x σD G) := fun x cls d H' G' s r p e => h x cls d σ σD H' G' s r (hS.mono s) p e
structure EndR (K : Frag) (W : WX) (H : Hp) (G : HH) (DD : EndsD) (D : Ends) : Prop where
  nx : Nx K H G DD.nx D.nx
  rt : Ct K H G D.rt DD.rt
  bk : Nx K H G DD.bk D.bk
  ct : Nx K H G DD.ct D.ct
  ex : ExS K W H G DD.ex
theorem EndR.mono {K W H G H' G' DD D} (s : Stp H G H' G') (h : EndR K W H G DD D) : EndR K W H' G' DD D := ⟨h.nx.mono s, h.rt.mono s, h.bk.mono s, h.ct.mono s, h.ex.mono s⟩
def lftS (K : Frag) (W : WX) (t : TSD) : TS := fun D σ H => ∃ σD G DD, RelH K H G ∧ SRp K H G σD σ ∧ t DD σD G ∧ EndR K W H G DD D
def DS (X : Cx) (W : WX) (st : Stmt) (t : TSD) : Prop := PS X st (lftS X.K W t)
def DSs (X : Cx) (W : WX) (st : List Stmt) (t : TSD) : Prop := PSs X st (lftS X.K W t)
theorem PS.imp {X : Cx} {e : Stmt} {t t' : TS} (h : PS X e t) (i : ∀ D σ H, t' D σ H → t D σ H) : PS X e t' := ⟨fun pins s σ H D I q => h.run pins s σ H D I (i D σ H q)⟩
theorem PSs.imp {X : Cx} {e : List Stmt} {t t' : TS} (h : PSs X e t) (i : ∀ D σ H, t' D σ H → t D σ H) : PSs X e t' := ⟨fun pins s σ H D I q => h.run pins s σ H D I (i D σ H q)⟩
theorem PG.imp {X : Cx} {e : Expr} {t t' : TG} (h : PG X e t) (i : ∀ v σ H Q, t' v σ H Q → t v σ H Q) : PG X e t' := ⟨fun pins s σ H v u Q I r q => h.run pins s σ H v u Q I r (i v σ H Q q)⟩
theorem PGs.imp {X : Cx} {e : List Expr} {t t' : TGs} (h : PGs X e t) (i : ∀ v σ H Q, t' v σ H Q → t v σ H Q) : PGs X e t' := ⟨fun pins s σ H v u Q I r q => h.run pins s σ H v u Q I r (i v σ H Q q)⟩
theorem PI.imp {X : Cx} {tg e : Expr} {t t' : TI} (h : PI X tg e t) (i : ∀ σ H Q, t' σ H Q → t σ H Q) : PI X tg e t' := ⟨fun pins s σ H R I q => h.run pins s σ H R I (i σ H R q)⟩

def dNext : TSD := fun D σ G => D.nx σ G
def dSeq (t u : TSD) : TSD := fun D σ G => t { D with nx := u D } σ G
variable {tS uS : TSD}
theorem dss_nil : DSs X W [] dNext := PSs.imp pss_nil fun D σ H ⟨σD, G, DD, hR, hS, q, he⟩ => he.nx _ _ _ _ Stp.refl hR hS q
theorem dss_cons (h1 : DS X W st tS) (h2 : DSs X W rest uS) : DSs X W (st :: rest) (dSeq tS uS) := PSs.imp (pss_cons h1 h2) fun D σ H ⟨σD, G, DD, hR, hS, q, he⟩ => by
  refine ⟨σD, G, _, hR, hS, q, fun σ' H' σD' G' s r p z => ?_, he.rt, he.bk, he.ct, he.ex⟩
  exact ⟨σD', G', DD, r, p, z, he.mono s⟩
theorem dss_one (h1 : DS X W st tS) : DSs X W [st] tS := pss_one h1
def dBreak : TSD := fun D σ G => D.bk σ G
def dCont : TSD := fun D σ G => D.ct σ G
theorem ds_pass : DS X W (.Pass pos) dNext := PS.imp ps_pass fun D σ H ⟨σD, G, DD, hR, hS, q, he⟩ => he.nx _ _ _ _ Stp.refl hR hS q
theorem ds_break : DS X W (.Break pos) dBreak := PS.imp ps_break fun D σ H ⟨σD, G, DD, hR, hS, q, he⟩ => he.bk _ _ _ _ Stp.refl hR hS q
theorem ds_continue : DS X W (.Continue pos) dCont := PS.imp ps_continue fun D σ H ⟨σD, G, DD, hR, hS, q, he⟩ => he.ct _ _ _ _ Stp.refl hR hS q
def dDrop (ta : TED) : TSD := fun D σ G => ta σ G (fun _ G1 => D.nx σ G1) (fun x G1 => D.ex x σ G1)
theorem ds_expr (ha : DE X W a ta) (hs : swapsWith a none pos.line X.env = pure false := by rfl) : DS X W (.Expr a pos) (dDrop ta) := PS.imp (ps_expr ha hs) fun D σ H ⟨σD, G, DD, hR, hS, q, he⟩ =>
  ⟨σD, G, _, _, hR, hS, q, fun v H1 d G1 s r p z => he.nx _ _ _ _ s r (hS.mono s) z, he.ex.at hS⟩
def dRet (ta : TED) : TSD := fun D σ G => ta σ G D.rt (fun x G1 => D.ex x σ G1)
theorem ds_ret (ha : DE X W a ta) : DS X W (.Return (some a) pos) (dRet ta) := PS.imp (ps_ret ha) fun D σ H ⟨σD, G, DD, hR, hS, q, he⟩ =>
  ⟨σD, G, _, _, hR, hS, q, he.rt, he.ex.at hS⟩
/-- .. a list that was filled is frozen -/
def dRetF (ta : TED) : TSD := fun D σ G => ta σ G (fun d G1 => ∃ p xs, d = .ref p ∧ G1 p = some (.lst xs) ∧ D.rt (.lst xs) (gdel G1 p)) (fun x G1 => D.ex x σ G1)
theorem thaw_lst {K H G p xs} (hR : RelH K H G) (e : G p = some (.lst xs)) : Rp K H (gdel G p) (.lst xs) (.ref p) := by
  obtain ⟨vs, h, r⟩ := hR p _ e
  exact .lst h gdel_same (r.mono Stp.del)
theorem ds_retF (ha : DE X W a ta) : DS X W (.Return (some a) pos) (dRetF ta) := PS.imp (ps_ret ha) fun D σ H ⟨σD, G, DD, hR, hS, q, he⟩ =>
  ⟨σD, G, _, _, hR, hS, q, fun v H1 d G1 s r p ⟨q, xs, e1, e2, z⟩ => by
    subst e1; cases p
    exact he.rt _ _ _ _ (s.trans Stp.del) r.del (thaw_lst r e2) z, he.ex.at hS⟩
def dRetN : TSD := fun D _ G => D.rt .non G
theorem ds_retN : DS X W (.Return none pos) dRetN := PS.imp ps_retN fun D σ H ⟨σD, G, DD, hR, hS, q, he⟩ => he.rt.now hR .non q
def dIfS (c : TTD) (t u : TSD) : TSD := fun D σ G => c σ G (fun b G1 => if b = true then t D σ G1 else u D σ G1) (fun x G1 => D.ex x σ G1)
theorem ds_if {a b : List Stmt} (hc : DT X W c tA) (ha : DSs X W a tS) (hb : DSs X W b uS) : DS X W (.If c a b pos) (dIfS tA tS uS) := PS.imp (ps_if hc ha hb) fun D σ H ⟨σD, G, DD, hR, hS, q, he⟩ =>
  ⟨σD, G, _, _, hR, hS, q, fun k H1 G1 s r z => by
    cases k with
    | true => rw [if_pos rfl] at z ⊢; exact ⟨σD, G1, DD, r, hS.mono s, z, he.mono s⟩
    | false => rw [if_neg Bool.false_ne_true] at z ⊢; exact ⟨σD, G1, DD, r, hS.mono s, z, he.mono s⟩, he.ex.at hS⟩
/-- a list in slot i is frozen here -/
def dFrz (i : Nat) (t : TSD) : TSD := fun D σ G => ∃ p xs, σ[i]? = some (some (.ref p)) ∧ G p = some (.lst xs) ∧ t D (σ.set i (some (.lst xs))) (gdel G p)
theorem dss_frz (i : Nat) (h : DSs X W rest tS) : DSs X W rest (dFrz i tS) := PSs.imp h fun D σ H ⟨σD, G, DD, hR, hS, ⟨p, xs, e1, e2, q⟩, he⟩ => by
  obtain ⟨v, ev, r⟩ := hS.at_ i _ e1
  cases r
  refine ⟨σD.set i (some (.lst xs)), gdel G p, DD, hR.del, ?_, q, he.mono Stp.del⟩
  have z := (hS.mono (Stp.del (p := p))).set i (thaw_lst hR e2)
  have eσ : σ.set i (some (.ref p)) = σ := by
    apply List.ext_getElem?
    intro j
    by_cases hj : i = j
    · subst hj
      rw [List.getElem?_set_self (List.getElem?_eq_some_iff.mp ev).1, ev]
    · rw [List.getElem?_set_ne hj]
  rw [eσ] at z
  exact z

/-! ### targets -/
abbrev TGD := D → SD → HH → (SD → HH → Prop) → Prop
abbrev TGsD := List D → SD → HH → (SD → HH → Prop) → Prop
def lftG (K : Frag) (t : TGD) : TG := fun v σ H Q => ∃ d σD G QD, RelH K H G ∧ SRp K H G σD σ ∧ Rp K H G d v ∧ t d σD G QD ∧ Nx K H G QD Q
def lftGs (K : Frag) (t : TGsD) : TGs := fun vs σ H Q => ∃ ds σD G QD, RelH K H G ∧ SRp K H G σD σ ∧ Rps K H G ds vs ∧ t ds σD G QD ∧ Nx K H G QD Q
def DG (X : Cx) (e : Expr) (t : TGD) : Prop := PG X e (lftG X.K t)
def DGs (X : Cx) (es : List Expr) (t : TGsD) : Prop := PGs X es (lftGs X.K t)
def gdName (i : Nat) : TGD := fun d σ G Q => Q (σ.set i (some d)) G
theorem dg_name {i : Nat} {x : Str} (hN : X.N.Nodup) (hi : X.N[i]? = some x) (hx : Loc X.env.scope x) (hf : X.fn x = true ∨ X.env.scope.names.lookup x = some .local := by first | exact .inl rfl | exact .inr rfl | assumption) : DG X (.Name x pos) (gdName i) :=
  PG.imp (pg_name hN hi hx hf) fun v σ H Q ⟨d, σD, G, QD, hR, hS, p, q, hq⟩ => hq _ _ _ _ Stp.refl hR (hS.set i p) q
def gdNil : TGsD := fun ds σ G Q => ds = [] ∧ Q σ G
def gdCons (t : TGD) (u : TGsD) : TGsD := fun ds σ G Q => ∃ d r, ds = d :: r ∧ t d σ G (fun σ' G' => u r σ' G' Q)
theorem dgs_nil : DGs X [] gdNil := PGs.imp pgs_nil fun vs σ H Q ⟨ds, σD, G, QD, hR, hS, p, ⟨e, q⟩, hq⟩ => by
  subst e; cases p
  exact ⟨rfl, hq _ _ _ _ Stp.refl hR hS q⟩
theorem dgs_cons {tG : TGD} {uG : TGsD} (h1 : DG X e tG) (h2 : DGs X es uG) (hs : (assignEach (e :: es) X.env).map (·.2) = assign e X.env :: (assignEach es X.env).map (·.2) := by rfl) : DGs X (e :: es) (gdCons tG uG) :=
  PGs.imp (pgs_cons h1 h2 hs) fun vs σ H Q ⟨ds, σD, G, QD, hR, hS, p, ⟨d, r, e, q⟩, hq⟩ => by
    subst e
    cases p with
    | cons p1 p2 =>
      refine ⟨_, _, rfl, d, σD, G, _, hR, hS, p1, q, fun σ' H' σD' G' s r' p' z => ?_⟩
      exact ⟨_, σD', G', QD, r', p', p2.mono s, z, hq.mono s⟩
def gdTup (n : Nat) (t : TGsD) : TGD := fun d σ G Q => ∃ ds, d = .tup ds ∧ ds.length = n ∧ t ds σ G Q
theorem dg_tup {k n : Nat} {tG : TGsD} (hc : X.calm = true) (h : DGs X es tG) (hn : (assignEach es X.env).length = n := by rfl) (hst : (assignEach es X.env).findIdx? (·.1) = none := by rfl) : DG X (.Tuple es k pos) (gdTup n tG) :=
  PG.imp (pg_tup hc h hn hst) fun v σ H Q ⟨d, σD, G, QD, hR, hS, p, ⟨ds, e, l, q⟩, hq⟩ => by
    subst e
    cases p with
    | tup f r => exact ⟨_, _, rfl, f.sq, by rw [← r.length]; exact l, ds, σD, G, QD, hR, hS, r, q, hq⟩
/-- o[i] = .., a list -/
def gdSub (ta tb : TED) : TGD := fun d σ G Q => ta σ G (fun x G1 => tb σ G1 (fun y G2 => ∃ p xs k j, x = .ref p ∧ y = .int k ∧ G2 p = some (.lst xs) ∧ ixN xs.length k = some j ∧ Q σ (gput G2 p (.lst (xs.set j d)))) (fun _ _ => False)) (fun _ _ => False)
theorem exs0 {K σ H G} : Exs K (fun _ _ _ _ => False) σ H G (fun _ _ => False) := fun _ _ _ _ _ _ _ _ z => z
theorem dg_sub (ha : DE X (fun _ _ _ _ => False) a ta) (hb : DE X (fun _ _ _ _ => False) b tb) (hh : ∀ v, assign (.Subscript a b pos) X.env v = (do
      let ov ← holding [v] (eval a X.env)
      let iv ← holding [v, ov] (eval b X.env)
      standAt pos
      holding [v, ov, iv] (setItem ov iv v)
      release [v, ov, iv] []) := by intro _; rfl) : DG X (.Subscript a b pos) (gdSub ta tb) :=
  PG.imp (pg_sub ha hb set_list hh) fun v σ H Q ⟨d, σD, G, QD, hR, hS, p, q, hq⟩ => by
    refine ⟨σD, G, _, _, hR, hS, q, fun v1 H1 d1 G1 s1 r1 p1 q1 => ?_, exs0⟩
    refine ⟨σD, G1, _, _, r1, hS.mono s1, q1, fun v2 H2 d2 G2 s2 r2 p2 ⟨q, xs, k, j, e1, e2, e3, e4, z⟩ => ?_, exs0⟩
    subst e1; subst e2; cases p1; cases p2
    obtain ⟨vs, h, r⟩ := r2 _ _ e3
    have s3 := Stp.put (H := H2) (o := .lst (vs.set j v)) (od := .lst (xs.set j d)) e3
    have s12 := s1.trans s2
    exact ⟨_, _, k, j, rfl, rfl, h, by rw [← r.length]; exact e4, hq _ _ _ _ (s12.trans s3) (r2.put e3 ⟨_, upd_same, ((r.mono s3).set (by first | exact (p.mono s12).mono s3) j)⟩) ((hS.mono s12).mono s3) z⟩
def dAsg (ta : TED) (g : TGD) : TSD := fun D σ G => ta σ G (fun x G1 => g x σ G1 D.nx) (fun x G1 => D.ex x σ G1)
theorem ds_asg {tg : Expr} {g : TGD} (ha : DE X W a ta) (hg : DG X tg g) (hs : swapsWithSole [tg] a pos.line X.env = pure false := by rfl) (hw : swappedStores [tg] a X.env = pure none := by rfl)
    (h1 : (assignEach [tg] X.env).map (·.2) = [assign tg X.env] := by rfl) : DS X W (.Assign [tg] a pos) (dAsg ta g) := PS.imp (ps_asg ha hg hs hw h1) fun D σ H ⟨σD, G, DD, hR, hS, q, he⟩ =>
  ⟨σD, G, _, _, hR, hS, q, fun v H1 d G1 s r p z => ⟨d, σD, G1, DD.nx, r, hS.mono s, p, z, he.nx.mono s⟩, he.ex.at hS⟩
theorem ds_set {i : Nat} {x : Str} {pos' : Pos} (hN : X.N.Nodup) (hi : X.N[i]? = some x) (hx : Loc X.env.scope x) (ha : DE X W a ta) (hs : swapsWith a (some (.Name x pos')) pos.line X.env = pure false := by rfl) (hf : X.fn x = true ∨ X.env.scope.names.lookup x = some .local := by first | exact .inl rfl | exact .inr rfl | assumption) :
    DS X W (.Assign [.Name x pos'] a pos) (dAsg ta (gdName i)) := PS.imp (ps_set hN hi hx ha hs hf) fun D σ H ⟨σD, G, DD, hR, hS, q, he⟩ =>
  ⟨σD, G, _, _, hR, hS, q, fun v H1 d G1 s r p z => he.nx _ _ _ _ s r ((hS.mono s).set i p) z, he.ex.at hS⟩
/-- a, b = x, y -/
def dPar (i j : Nat) (t : TAD) : TSD := fun D σ G => t σ G (fun ds G1 => ∃ d e, ds = [d, e] ∧ D.nx ((σ.set i (some d)).set j (some e)) G1) (fun x G1 => D.ex x σ G1)
theorem ds_par {i j : Nat} {x y : Str} {px py pt : Pos} {kt k2 pt2} (hc : X.calm = true) (hN : X.N.Nodup) (hi : X.N[i]? = some x) (hj : X.N[j]? = some y) (hij : i ≠ j)
    (hx : X.env.scope.names.lookup x = some .local) (hy : X.env.scope.names.lookup y = some .local) (ha : DA X W [a, b] t)
    (hw : swappedStores [.Tuple [.Name x px, .Name y py] kt pt] (.Tuple [a, b] k2 pt2) X.env = pure (some [x, y]))
    (hs : swapsWithSole [.Tuple [.Name x px, .Name y py] kt pt] (.Tuple [a, b] k2 pt2) pos.line X.env = pure false := by rfl) :
    DS X W (.Assign [.Tuple [.Name x px, .Name y py] kt pt] (.Tuple [a, b] k2 pt2) pos) (dPar i j t) := PS.imp (ps_par hc hN hi hj hij hx hy ha hw hs) fun D σ H ⟨σD, G, DD, hR, hS, q, he⟩ =>
  ⟨σD, G, _, _, hR, hS, q, fun vs H1 ds G1 s r p ⟨d, e, e1, z⟩ => by
    subst e1
    obtain ⟨v, w, rfl, p1, p2⟩ := rps2 p
    exact ⟨v, w, rfl, he.nx _ _ _ _ s r (((hS.mono s).set i p1).set j p2) z⟩, he.ex.at hS⟩

/-! ### what a loop walks -/
abbrev TID := SD → HH → (List D → (HH → Prop) → HH → Prop) → ED → Prop
def ItR (K : Frag) (H : Hp) (G : HH) (J : It) (items : List D) (ok : HH → Prop) : Prop := ∀ i H2 G2, Stp H G H2 G2 → RelH K H2 G2 → ok G2 →
  (∀ d, items[i]? = some d → J.go i H2 ∧ ∀ x H3, J.yld i H2 x H3 → Stp H2 G2 H3 G2 ∧ RelH K H3 G2 ∧ Rp K H3 G2 d x) ∧ (items.length ≤ i → J.stop i H2)
def lftI (K : Frag) (W : WX) (t : TID) : TI := fun σ H R => ∃ σD G RD E, RelH K H G ∧ SRp K H G σD σ ∧ t σD G RD E ∧ (∀ J H' items ok G', Stp H G H' G' → RelH K H' G' → ItR K H' G' J items ok → RD items ok G' → R J H') ∧ Exs K W σ H G E
def DI (X : Cx) (W : WX) (tg e : Expr) (t : TID) : Prop := PI X tg e (lftI X.K W t)
def okT : HH → Prop := fun _ => True
variable {tg : Expr}
/-- a tuple -/
def iTupD (ta : TED) : TID := fun σ G R E => ta σ G (fun x G1 => ∃ xs, x = .tup xs ∧ R xs okT G1) E
theorem di_tup (ha : DE X W a ta) : DI X W tg a (iTupD ta) := PI.imp (pi_tup ha) fun σ H R ⟨σD, G, RD, E, hR, hS, q, hr, he⟩ =>
  ⟨σD, G, _, E, hR, hS, q, fun v H1 d G1 s r p ⟨xs, ex, z⟩ => by
    subst ex
    cases p with
    | @tup a vs _ f rr =>
      refine ⟨a, rfl, ⟨_, f.sq⟩, hr _ _ _ _ _ s r (fun i H2 G2 s2 r2 _ => ⟨fun d hd => ?_, fun hl => ?_⟩) z⟩
      · obtain ⟨x, hx, px⟩ := (rr.mono s2).get hd
        refine ⟨⟨_, x, (f.mono s2).sq, hx⟩, fun y H3 ⟨e3, hy⟩ => ?_⟩
        have := hy _ (f.mono s2).sq
        rw [hx] at this
        cases this
        rw [e3]
        exact ⟨Stp.refl, r2, px⟩
      · exact ⟨_, (f.mono s2).sq, by rw [← rr.length]; exact hl⟩, he⟩
/-- a list, frozen or to be left alone meanwhile -/
def okL (x : D) (xs : List D) : HH → Prop := fun G => LsW G x xs
def iLstD (ta : TED) : TID := fun σ G R E => ta σ G (fun x G1 => ∃ xs, LsW G1 x xs ∧ R xs (okL x xs) G1) E
theorem di_lst (ha : DE X W a ta) : DI X W tg a (iLstD ta) := PI.imp (pi_list ha) fun σ H R ⟨σD, G, RD, E, hR, hS, q, hr, he⟩ =>
  ⟨σD, G, _, E, hR, hS, q, fun v H1 d G1 s r p ⟨xs, ls, z⟩ => by
    obtain ⟨a, vs, rfl, h1, rr⟩ := ls.of r p
    refine ⟨a, rfl, ⟨_, h1⟩, hr _ _ _ _ _ s r (fun i H2 G2 s2 r2 ok2 => ?_) z⟩
    obtain ⟨a2, vs2, e2, h2, rr2⟩ := LsW.of ok2 r2 (p.mono s2)
    cases e2
    refine ⟨fun d hd => ?_, fun hl => ⟨_, h2, by rw [← rr2.length]; exact hl⟩⟩
    obtain ⟨x, hx, px⟩ := rr2.get hd
    refine ⟨⟨_, x, h2, hx⟩, fun y H3 ⟨e3, hy⟩ => ?_⟩
    have := hy _ h2
    rw [hx] at this
    cases this
    rw [e3]
    exact ⟨Stp.refl, r2, px⟩, he⟩
/-- range(n), range(a, b) -/
def rgItems (lo : Int) (n : Nat) : List D := (List.range n).map fun i : Nat => D.int (lo + (i : Int))
theorem rgItems_len {lo n} : (rgItems lo n).length = n := by simp [rgItems]
theorem itR_rng {K H G lo n} : ItR K H G (Itr lo n) (rgItems lo n) okT := fun i H2 G2 s2 r2 _ => ⟨fun d hd => by
    have hi : i < n := by
      have := (List.getElem?_eq_some_iff.mp hd).1
      simpa [rgItems] using this
    refine ⟨hi, fun y H3 ⟨e3, hy⟩ => ?_⟩
    have e : d = .int (lo + (i : Int)) := by
      simp [rgItems, hi] at hd
      exact hd.symm
    rw [e3, e, hy]
    exact ⟨Stp.refl, r2, .int _⟩, fun hl => by
    have : n ≤ i := by simpa [rgItems] using hl
    exact this⟩
def iRngD1 (t : TAD) : TID := fun σ G R E => t σ G (fun ds G1 => ∃ j : Int, ds = [.int j] ∧ -(2 ^ 62) ≤ j ∧ j < 2 ^ 62 ∧ R (rgItems 0 j.toNat) okT G1) E
def iRngD2 (t : TAD) : TID := fun σ G R E => t σ G (fun ds G1 => ∃ i j : Int, ds = [.int i, .int j] ∧ (-(2 ^ 62) ≤ i ∧ i < 2 ^ 62 ∧ -(2 ^ 62) ≤ j ∧ j < 2 ^ 62) ∧ R (rgItems i (j - i).toNat) okT G1) E
theorem di_rng1 {p : Pos} (hg : Gl X "range") (hm : X.mg "range" = none) (ha : DA X W [a] t) (hs : starEach [a] X.env = [(false, eval a X.env)] := by rfl) : DI X W tg (.Call (.Name "range" p) [a] [] pos) (iRngD1 t) :=
  PI.imp (pi_range1 hg hm ha hs) fun σ H R ⟨σD, G, RD, E, hR, hS, q, hr, he⟩ => ⟨σD, G, _, E, hR, hS, q, fun vs H1 ds G1 s r p ⟨j, e, l1, l2, z⟩ => by
    subst e
    obtain ⟨v, rfl, p1⟩ := rps1 p
    cases p1
    exact ⟨j, rfl, l1, l2, hr _ _ _ _ _ s r itR_rng z⟩, he⟩
theorem di_rng2 {p : Pos} (hg : Gl X "range") (hm : X.mg "range" = none) (ha : DA X W [a, b] t) (hs : starEach [a, b] X.env = [(false, eval a X.env), (false, eval b X.env)] := by rfl) (hs2 : starEach [b] X.env = [(false, eval b X.env)] := by rfl) :
    DI X W tg (.Call (.Name "range" p) [a, b] [] pos) (iRngD2 t) :=
  PI.imp (pi_range2 hg hm ha hs hs2) fun σ H R ⟨σD, G, RD, E, hR, hS, q, hr, he⟩ => ⟨σD, G, _, E, hR, hS, q, fun vs H1 ds G1 s r p ⟨i, j, e, l, z⟩ => by
    subst e
    obtain ⟨v, w, rfl, p1, p2⟩ := rps2 p
    cases p1; cases p2
    exact ⟨i, j, rfl, l, hr _ _ _ _ _ s r itR_rng z⟩, he⟩

/-! ### for -/
def dFor (wi : TID) (g : TGD) (tb : TSD) : TSD := fun DD σ G => wi σ G (fun items ok G1 => ∃ Iv : List D → SD → HH → Prop, Iv [] σ G1 ∧ (∀ pre σ G, Iv pre σ G → ok G) ∧
  (∀ pre x post σ G, items = pre ++ x :: post → Iv pre σ G → g x σ G (fun σ2 G2 => tb { DD with nx := Iv (pre ++ [x]), ct := Iv (pre ++ [x]), bk := DD.nx } σ2 G2)) ∧ (∀ σ G, Iv items σ G → DD.nx σ G)) (fun x G1 => DD.ex x σ G1)
theorem take_snoc {α : Type} {l : List α} {i : Nat} {x : α} (h : l[i]? = some x) : l.take (i + 1) = l.take i ++ [x] := by
  rw [List.take_succ, h]; rfl
theorem split_at {α : Type} {l : List α} {i : Nat} {x : α} (h : l[i]? = some x) : l = l.take i ++ x :: l.drop (i + 1) := by
  have hi := (List.getElem?_eq_some_iff.mp h).1
  have hx := (List.getElem?_eq_some_iff.mp h).2
  rw [← hx, ← List.drop_eq_getElem_cons hi, List.take_append_drop]
theorem ds_for {iter : Expr} {wi : TID} {g : TGD} (hp : PassesOwn (model X.prog X.w) X.A X.env X.xe) (hc : X.calm = true) (hi : DI X W tg iter wi) (hg : DG X tg g) (hb : DSs X W body tS)
    (hs : ∀ x, foldedSetIterable iter X.env x = pure x := by intro _; rfl) : DS X W (.For tg iter body [] pos) (dFor wi g tS) := PS.imp (ps_for hp hc hi hg hb hs) fun D σ H ⟨σD, G, DD, hR, hS, q, he⟩ => by
  refine ⟨σD, G, _, _, hR, hS, q, fun J H1 items ok G1 s1 r1 itr ⟨Iv, i0, iok, istep, iend⟩ => ?_, he.ex.at hS⟩
  refine ⟨fun i m σ' H' => m = items.length - i ∧ i ≤ items.length ∧ ∃ σD' G', Stp H1 G1 H' G' ∧ RelH X.K H' G' ∧ SRp X.K H' G' σD' σ' ∧ Iv (items.take i) σD' G', ⟨items.length, by simp, Nat.zero_le _, σD, G1, Stp.refl, r1, hS.mono s1, by simpa using i0⟩, ?_⟩
  rintro i m σ' H' ⟨rfl, hi, σD', G', s', r', p', iv⟩
  obtain ⟨j1, j2⟩ := itr i H' G' s' r' (iok _ _ _ iv)
  have s1' := s1.trans s'
  by_cases hlt : i < items.length
  · obtain ⟨d, hd⟩ : ∃ d, items[i]? = some d := ⟨items[i], List.getElem?_eq_getElem hlt⟩
    obtain ⟨jgo, jy⟩ := j1 d hd
    refine .inr ⟨jgo, fun σ'' H'' => ∃ σD'' G'', Stp H1 G1 H'' G'' ∧ RelH X.K H'' G'' ∧ SRp X.K H'' G'' σD'' σ'' ∧ Iv (items.take (i + 1)) σD'' G'', fun σ'' H'' z => ⟨items.length - (i + 1), by omega, rfl, hlt, z⟩, fun x H3 y => ?_⟩
    obtain ⟨s3, r3, px⟩ := jy x H3 y
    have stp := istep _ d _ σD' G' (split_at hd) iv
    refine ⟨d, σD', G', _, r3, p'.mono s3, px, stp, fun σ4 H4 σD4 G4 s4 r4 p4 z => ?_⟩
    have s04 := (s1'.trans s3).trans s4
    have s14 := (s'.trans s3).trans s4
    have nxt : Nx X.K H4 G4 (Iv (items.take i ++ [d])) (fun σ'' H'' => ∃ σD'' G'', Stp H1 G1 H'' G'' ∧ RelH X.K H'' G'' ∧ SRp X.K H'' G'' σD'' σ'' ∧ Iv (items.take (i + 1)) σD'' G'') := fun σ5 H5 σD5 G5 s5 r5 p5 z5 =>
      ⟨σD5, G5, s14.trans s5, r5, p5, by rw [take_snoc hd]; exact z5⟩
    exact ⟨σD4, G4, _, r4, p4, z, nxt, he.rt.mono s04, he.nx.mono s04, nxt, he.ex.mono s04⟩
  · have e : i = items.length := by omega
    subst e
    rw [List.take_length] at iv
    exact .inl ⟨j2 (Nat.le_refl _), he.nx _ _ _ _ s1' r' p' (iend _ _ iv)⟩

/-! ### while -/
def dWhile (c : TTD) (tb : TSD) : TSD := fun DD σ G => ∃ (Iv : SD → HH → Prop) (μ : SD → HH → Nat), Iv σ G ∧ ∀ σ G, Iv σ G →
  c σ G (fun b G1 => if b = true then tb { DD with nx := fun σ' G' => Iv σ' G' ∧ μ σ' G' < μ σ G, ct := fun σ' G' => Iv σ' G' ∧ μ σ' G' < μ σ G, bk := DD.nx } σ G1 else DD.nx σ G1) (fun x G1 => DD.ex x σ G1)
theorem ds_while (hp : PassesOwn (model X.prog X.w) X.A X.env X.xe) (hc : DT X W c tA) (hb : DSs X W body tS) : DS X W (.While c body [] pos) (dWhile tA tS) := PS.imp (ps_while hp hc hb) fun D σ H ⟨σD, G, DD, hR, hS, ⟨Iv, μ, i0, istep⟩, he⟩ => by
  refine ⟨fun m σ' H' => ∃ σD' G', m = μ σD' G' ∧ Stp H G H' G' ∧ RelH X.K H' G' ∧ SRp X.K H' G' σD' σ' ∧ Iv σD' G', ⟨_, σD, G, rfl, Stp.refl, hR, hS, i0⟩, ?_⟩
  rintro m σ' H' ⟨σD', G', rfl, s', r', p', iv⟩
  refine ⟨σD', G', _, _, r', p', istep _ _ iv, fun b H1 G1 s1 r1 z => ?_, (he.ex.mono s').at p'⟩
  have s01 := s'.trans s1
  cases b with
  | false => rw [if_neg Bool.false_ne_true] at z; dsimp only; rw [if_neg Bool.false_ne_true]; exact he.nx _ _ _ _ s01 r1 (p'.mono s1) z
  | true =>
    rw [if_pos rfl] at z
    dsimp only
    rw [if_pos rfl]
    refine ⟨fun σ'' H'' => ∃ σD'' G'', μ σD'' G'' < μ σD' G' ∧ Stp H G H'' G'' ∧ RelH X.K H'' G'' ∧ SRp X.K H'' G'' σD'' σ'' ∧ Iv σD'' G'', fun σ'' H'' ⟨a, b, l, s, r, p, i⟩ => ⟨_, l, a, b, rfl, s, r, p, i⟩, ?_⟩
    have nxt : Nx X.K H1 G1 (fun σ'' G'' => Iv σ'' G'' ∧ μ σ'' G'' < μ σD' G') (fun σ'' H'' => ∃ σD'' G'', μ σD'' G'' < μ σD' G' ∧ Stp H G H'' G'' ∧ RelH X.K H'' G'' ∧ SRp X.K H'' G'' σD'' σ'' ∧ Iv σD'' G'') := fun σ5 H5 σD5 G5 s5 r5 p5 z5 =>
      ⟨σD5, G5, z5.2, s01.trans s5, r5, p5, z5.1⟩
    exact ⟨σD', G1, _, r1, p'.mono s1, z, nxt, he.rt.mono s01, he.nx.mono s01, nxt, he.ex.mono s01⟩
end DL

namespace DL
open PySem PySem.Spec PyProof.Rows L2
open PySem.W (Frag)
variable {X : Cx} {W : WX} {e a b c o : Expr} {es : List Expr} {ta tb tc to : TED} {t u : TAD} {tA tB' : TTD} {pos apos cpos : Pos} {st : Stmt} {rest body : List Stmt}

/-! ### methods of built-in types -/
structure MtD (X : Cx) (T id : String) (ty : D → HH → Prop) (rD : D → List D → HH → QD → Prop) : Prop where
  tyv : ∀ H G d v, RelH X.K H G → Rp X.K H G d v → ty d G → tyV X.K T v H
  rule : ∃ r, MtR X id r ∧ ∀ x xs H Q d ds G QD, RelH X.K H G → Rp X.K H G d x → Rps X.K H G ds xs → rD d ds G QD → Ct X.K H G Q QD → r x xs H Q
def dBM (ty : D → HH → Prop) (rD : D → List D → HH → QD → Prop) (to : TED) (t : TAD) : TED := fun σ G Q E => to σ G (fun x G1 => ty x G1 ∧ t σ G1 (fun ds G2 => rD x ds G2 Q) E) E
def dBM0 (ty : D → HH → Prop) (rD : D → List D → HH → QD → Prop) (to : TED) : TED := fun σ G Q E => to σ G (fun x G1 => ty x G1 ∧ rD x [] G1 Q) E
section
variable {T id : String} {name : Str} {ty : D → HH → Prop} {rD : D → List D → HH → QD → Prop}
theorem de_bm (pa : PlainAttrs T) (slot : Slot T name id) (hty : typeOf (.builtin id) = pure (.type "method_descriptor")) (m : MtD X T id ty rD) (ho : DE X W o to) (ha : DA X W (e :: es) t)
    (hbase : attributeBase o name X.env (eval o X.env) = eval o X.env := by rfl)
    (hfew : ((backTo cpos (starEach (e :: es) X.env)).all (fun x => !x.1) && (backToKw cpos (keywordEach [] X.env)).all (fun x => x.1.isSome)
      && decide ((e :: es).length + ([] : List Keyword).length + (if ([] : List Keyword).isEmpty then 0 else 1) < 30)) = true := by rfl)
    (hline : (apos.endLine == cpos.line) = true := by rfl) (hs : starEach (e :: es) X.env = (false, eval e X.env) :: starEach es X.env := by rfl) (hplain : (backTo cpos (starEach es X.env)).any (·.1) = false := by rfl) :
    DE X W (.Call (.Attribute o name apos) (e :: es) [] cpos) (dBM ty rD to t) :=
  let ⟨_, h1, h2⟩ := m.rule
  PE.imp (pe_bm pa slot hty h1 ho ha hbase hfew hline hs hplain) fun σ H Q ⟨σD, G, QD, E, hR, hS, q, hq, he⟩ => by
    refine ⟨σD, G, _, E, hR, hS, q, fun v H1 d G1 s1 r1 p1 ⟨t1, q1⟩ => ⟨m.tyv _ _ _ _ r1 p1 t1, ?_⟩, he⟩
    refine ⟨σD, G1, _, E, r1, hS.mono s1, q1, fun us H2 ds G2 s2 r2 p2 q2 => ?_, he.mono s1⟩
    exact h2 _ _ _ _ _ _ _ _ r2 (p1.mono s2) p2 q2 (hq.mono (s1.trans s2))
theorem de_bm0 (pa : PlainAttrs T) (slot : Slot T name id) (hty : typeOf (.builtin id) = pure (.type "method_descriptor")) (m : MtD X T id ty rD) (ho : DE X W o to)
    (hbase : attributeBase o name X.env (eval o X.env) = eval o X.env := by rfl) (hline : (apos.endLine == cpos.line) = true := by rfl) : DE X W (.Call (.Attribute o name apos) [] [] cpos) (dBM0 ty rD to) :=
  let ⟨_, h1, h2⟩ := m.rule
  PE.imp (pe_bm0 pa slot hty h1 ho hbase hline) fun σ H Q ⟨σD, G, QD, E, hR, hS, q, hq, he⟩ =>
    ⟨σD, G, _, E, hR, hS, q, fun v H1 d G1 s1 r1 p1 ⟨t1, q1⟩ => ⟨m.tyv _ _ _ _ r1 p1 t1, h2 _ _ _ _ _ _ _ _ r1 p1 .nil q1 (hq.mono s1)⟩, he⟩
end
/-- a list that may change -/
def tyL : D → HH → Prop := fun x G => ∃ p xs, x = .ref p ∧ G p = some (.lst xs)
theorem tyL_v {K H G d v} (r : RelH K H G) (p : Rp K H G d v) (h : tyL d G) : tyV K "list" v H := by
  obtain ⟨q, xs, e1, e2⟩ := h
  subst e1; cases p
  obtain ⟨vs, h, _⟩ := r _ _ e2
  exact .inl ⟨rfl, _, SqL.of h⟩
def mAppend : D → List D → HH → QD → Prop := fun x ds G Q => ∃ p xs y, x = .ref p ∧ ds = [y] ∧ G p = some (.lst xs) ∧ xs.length < sizeLine ∧ Q .non (gput G p (.lst (xs ++ [y])))
theorem mdAppend : MtD X "list" "list.append" tyL mAppend := ⟨fun _ _ _ _ => tyL_v, _, mt_append, fun x us H Q d ds G QD hR hp hps ⟨p, xs, y, e1, e2, e3, l, q⟩ hq => by
  subst e1; subst e2; cases hp
  obtain ⟨w, rfl, py⟩ := rps1 hps
  obtain ⟨vs, h, rr⟩ := hR _ _ e3
  have s3 := Stp.put (H := H) (o := .lst (vs ++ [w])) (od := .lst (xs ++ [y])) e3
  exact ⟨p, vs, w, rfl, rfl, h, by rw [← rr.length]; exact l, hq _ _ _ _ s3 (hR.put e3 ⟨_, upd_same, (rr.mono s3).append (.cons (py.mono s3) .nil)⟩) .non q⟩⟩
def mPop : D → List D → HH → QD → Prop := fun x ds G Q => ∃ p xs y, x = .ref p ∧ ds = [] ∧ G p = some (.lst (xs ++ [y])) ∧ Q y (gput G p (.lst xs))
theorem Rps.dropLast {K H G} {ds : List D} {vs : List V} (r : Rps K H G ds vs) : Rps K H G ds.dropLast vs.dropLast := by
  rw [List.dropLast_eq_take, List.dropLast_eq_take, r.length]
  exact r.take _
theorem mdPop : MtD X "list" "list.pop" tyL mPop := ⟨fun _ _ _ _ => tyL_v, _, mt_pop, fun x us H Q d ds G QD hR hp hps ⟨p, xs, y, e1, e2, e3, q⟩ hq => by
  subst e1; subst e2; cases hp; cases hps
  obtain ⟨vs, h, rr⟩ := hR _ _ e3
  have hl : vs.length = xs.length + 1 := by rw [← rr.length]; simp
  obtain ⟨w, hw, pw⟩ := rr.get (i := xs.length) (d := y) (by simp)
  have s3 := Stp.put (H := H) (o := .lst vs.dropLast) (od := .lst xs) e3
  have rd := rr.dropLast
  rw [List.dropLast_concat] at rd
  exact ⟨p, vs, w, rfl, rfl, h, by rw [hl]; simpa using hw, hq _ _ _ _ s3 (hR.put e3 ⟨_, upd_same, rd.mono s3⟩) (pw.mono s3) q⟩⟩
def mExtend : D → List D → HH → QD → Prop := fun x ds G Q => ∃ p xs y ys, x = .ref p ∧ ds = [y] ∧ G p = some (.lst xs) ∧ Ls G y ys ∧ xs.length + ys.length ≤ sizeLine ∧ Q .non (gput G p (.lst (xs ++ ys)))
theorem mdExtend : MtD X "list" "list.extend" tyL mExtend := ⟨fun _ _ _ _ => tyL_v, _, mt_extend, fun x us H Q d ds G QD hR hp hps ⟨p, xs, y, ys, e1, e2, e3, ls, l, q⟩ hq => by
  subst e1; subst e2; cases hp
  obtain ⟨w, rfl, py⟩ := rps1 hps
  obtain ⟨vs, h, rr⟩ := hR _ _ e3
  obtain ⟨b, us, rfl, hb, rb⟩ := ls.of hR py
  have s3 := Stp.put (H := H) (o := .lst (vs ++ us)) (od := .lst (xs ++ ys)) e3
  exact ⟨p, b, vs, us, rfl, rfl, h, hb, by rw [← rr.length, ← rb.length]; exact l, hq _ _ _ _ s3 (hR.put e3 ⟨_, upd_same, (rr.append rb).mono s3⟩) .non q⟩⟩
theorem de_append (ho : DE X W o to) (ha : DA X W (e :: es) t)
    (hbase : attributeBase o "append" X.env (eval o X.env) = eval o X.env := by rfl)
    (hfew : ((backTo cpos (starEach (e :: es) X.env)).all (fun x => !x.1) && (backToKw cpos (keywordEach [] X.env)).all (fun x => x.1.isSome)
      && decide ((e :: es).length + ([] : List Keyword).length + (if ([] : List Keyword).isEmpty then 0 else 1) < 30)) = true := by rfl)
    (hline : (apos.endLine == cpos.line) = true := by rfl) (hs : starEach (e :: es) X.env = (false, eval e X.env) :: starEach es X.env := by rfl) (hplain : (backTo cpos (starEach es X.env)).any (·.1) = false := by rfl) :
    DE X W (.Call (.Attribute o "append" apos) (e :: es) [] cpos) (dBM tyL mAppend to t) := de_bm PySem.F.plainAttrs_list PySem.F.slot_list_append PySem.F.type_list_append mdAppend ho ha hbase hfew hline hs hplain
theorem de_extend (ho : DE X W o to) (ha : DA X W (e :: es) t)
    (hbase : attributeBase o "extend" X.env (eval o X.env) = eval o X.env := by rfl)
    (hfew : ((backTo cpos (starEach (e :: es) X.env)).all (fun x => !x.1) && (backToKw cpos (keywordEach [] X.env)).all (fun x => x.1.isSome)
      && decide ((e :: es).length + ([] : List Keyword).length + (if ([] : List Keyword).isEmpty then 0 else 1) < 30)) = true := by rfl)
    (hline : (apos.endLine == cpos.line) = true := by rfl) (hs : starEach (e :: es) X.env = (false, eval e X.env) :: starEach es X.env := by rfl) (hplain : (backTo cpos (starEach es X.env)).any (·.1) = false := by rfl) :
    DE X W (.Call (.Attribute o "extend" apos) (e :: es) [] cpos) (dBM tyL mExtend to t) := de_bm PySem.F.plainAttrs_list PySem.F.slot_list_extend PySem.F.type_list_extend mdExtend ho ha hbase hfew hline hs hplain
theorem de_pop (ho : DE X W o to) (hbase : attributeBase o "pop" X.env (eval o X.env) = eval o X.env := by rfl) (hline : (apos.endLine == cpos.line) = true := by rfl) :
    DE X W (.Call (.Attribute o "pop" apos) [] [] cpos) (dBM0 tyL mPop to) := de_bm0 PySem.F.plainAttrs_list PySem.F.slot_list_pop PySem.F.type_list_pop mdPop ho hbase hline

/-! ### comprehensions -/
abbrev W0 : WX := fun _ _ _ _ => False
/-- the slots of the block's own names forgotten -/
def wipeD (σ : SD) : List Nat → SD
  | [] => σ
  | v :: vs => (wipeD σ vs).set v none
theorem SRp.wipe {K H G} {σD : SD} {σ : L2.St} (h : SRp K H G σD σ) : ∀ vs, SRp K H G (wipeD σD vs) (L2.wipe σ vs)
  | [] => h
  | v :: vs => by
    have ih := SRp.wipe h vs
    unfold wipeD L2.wipe
    refine ⟨by simp [ih.len], fun j d e => ?_⟩
    by_cases hj : v = j
    · subst hj
      have hlt : v < (wipeD σD vs).length := by
        have := (List.getElem?_eq_some_iff.mp e).1
        simpa using this
      rw [List.getElem?_set_self hlt] at e
      cases e
    · rw [List.getElem?_set_ne hj] at e ⊢
      exact ih.at_ j d e
/-- the targets: a name, a tuple of targets -/
inductive Tgt where
  | nm (i : Nat) | tp (ts : List Tgt)
mutual
def Tgt.slots : Tgt → List Nat
  | .nm i => [i]
  | .tp ts => slotsL ts
def slotsL : List Tgt → List Nat
  | [] => []
  | t :: ts => t.slots ++ slotsL ts
end
mutual
def Tgt.put : Tgt → D → SD → Option SD
  | .nm i, d, σ => some (σ.set i (some d))
  | .tp ts, .tup ds, σ => putL ts ds σ
  | .tp _, _, _ => none
def putL : List Tgt → List D → SD → Option SD
  | [], [], σ => some σ
  | t :: ts, d :: ds, σ => (t.put d σ).bind (putL ts ds)
  | _, _, _ => none
end
mutual
def Tgt.v (K : Frag) : Tgt → TG
  | .nm i => gName i
  | .tp ts => gTup K ts.length (tgtL K ts)
def tgtL (K : Frag) : List Tgt → TGs
  | [] => gNil
  | t :: ts => gCons (t.v K) (tgtL K ts)
end
theorem wipe_in {σ : L2.St} {i : Nat} : ∀ {vs : List Nat}, i ∈ vs → i < σ.length → (L2.wipe σ vs)[i]? = some none
  | v :: vs, h, hl => by
    unfold L2.wipe
    by_cases hv : v = i
    · subst hv
      exact List.getElem?_set_self (by rw [wipe_length]; exact hl)
    · rw [List.getElem?_set_ne hv]
      refine wipe_in ?_ hl
      rcases List.mem_cons.mp h with z | z
      · exact absurd z.symm hv
      · exact z
theorem wipe_eq {σ σ' : L2.St} {vs : List Nat} (hl : σ.length = σ'.length) (h : ∀ i, i ∉ vs → σ[i]? = σ'[i]?) : L2.wipe σ vs = L2.wipe σ' vs := by
  apply List.ext_getElem?
  intro i
  by_cases hi : i ∈ vs
  · by_cases hlt : i < σ.length
    · rw [wipe_in hi hlt, wipe_in hi (by omega)]
    · rw [List.getElem?_eq_none (by rw [wipe_length]; omega), List.getElem?_eq_none (by rw [wipe_length]; omega)]
  · rw [wipe_out hi, wipe_out hi]
    exact h i hi
/-- two frames that differ at these slots alone -/
def Aside (vs : List Nat) (σ σ' : L2.St) : Prop := σ.length = σ'.length ∧ ∀ i, i ∉ vs → σ[i]? = σ'[i]?
mutual
theorem Tgt.ok {K : Frag} {H : Hp} {G : HH} {vs : List Nat} : ∀ (t : Tgt) {d : D} {v : V} {σD σ2 : SD} {σ : L2.St} {Q : L2.St → Hp → Prop}, (∀ i ∈ t.slots, i ∈ vs) → Rp K H G d v → SRp K H G σD σ → t.put d σD = some σ2 →
    (∀ σ', SRp K H G σ2 σ' → Aside vs σ σ' → Q σ' H) → t.v K v σ H Q
  | .nm i, d, v, σD, σ2, σ, Q, hs, p, h, e, k => by
    simp only [Tgt.put, Option.some.injEq] at e
    subst e
    simp only [Tgt.v]
    refine k _ (h.set i p) ⟨by simp, fun j hj => ?_⟩
    rw [List.getElem?_set_ne]
    intro z
    exact hj (z ▸ hs i (by simp [Tgt.slots]))
  | .tp ts, d, v, σD, σ2, σ, Q, hs, p, h, e, k => by
    cases d with
    | tup ds =>
      cases p with
      | @tup a xs _ f r =>
        simp only [Tgt.put] at e
        obtain ⟨h1, h2⟩ := putL_ok ts (fun i hi => hs i (by simpa [Tgt.slots] using hi)) r h e k
        simp only [Tgt.v]
        exact ⟨a, xs, rfl, f.sq, h2, h1⟩
    | _ => simp [Tgt.put] at e
theorem putL_ok {K : Frag} {H : Hp} {G : HH} {vs : List Nat} : ∀ (ts : List Tgt) {ds : List D} {us : List V} {σD σ2 : SD} {σ : L2.St} {Q : L2.St → Hp → Prop}, (∀ i ∈ slotsL ts, i ∈ vs) → Rps K H G ds us → SRp K H G σD σ → putL ts ds σD = some σ2 →
    (∀ σ', SRp K H G σ2 σ' → Aside vs σ σ' → Q σ' H) → tgtL K ts us σ H Q ∧ us.length = ts.length
  | [], ds, us, σD, σ2, σ, Q, hs, p, h, e, k => by
    cases ds with
    | nil =>
      cases p
      simp only [putL, Option.some.injEq] at e
      subst e
      exact ⟨⟨rfl, k σ h ⟨rfl, fun _ _ => rfl⟩⟩, rfl⟩
    | cons d ds => simp [putL] at e
  | t :: ts, ds, us, σD, σ2, σ, Q, hs, p, h, e, k => by
    cases ds with
    | nil => simp [putL] at e
    | cons d ds =>
      cases p with
      | cons p1 p2 =>
        simp only [putL] at e
        cases e1 : t.put d σD with
        | none => rw [e1] at e; cases e
        | some σ1 =>
          rw [e1] at e
          have e : putL ts ds σ1 = some σ2 := e
          have hs1 : ∀ i ∈ t.slots, i ∈ vs := fun i hi => hs i (by simp [slotsL, hi])
          have hs2 : ∀ i ∈ slotsL ts, i ∈ vs := fun i hi => hs i (by simp [slotsL, hi])
          have len : ∀ σ' , SRp K H G σ1 σ' → (tgtL K ts _ σ' H fun _ _ => True) ∧ _ := fun σ' h' => putL_ok ts (Q := fun _ _ => True) hs2 p2 h' e fun _ _ _ => trivial
          refine ⟨?_, ?_⟩
          · simp only [tgtL]
            refine ⟨_, _, rfl, Tgt.ok t hs1 p1 h e1 fun σ' h' a' => ?_⟩
            exact (putL_ok ts hs2 p2 h' e fun σ3 h3 a3 => k σ3 h3 ⟨a'.1.trans a3.1, fun i hi => (a'.2 i hi).trans (a3.2 i hi)⟩).1
          · have := putL_len ts e
            have l2 := p2.length
            simp at *
            omega
theorem putL_len : ∀ (ts : List Tgt) {ds : List D} {σD σ2 : SD}, putL ts ds σD = some σ2 → ds.length = ts.length
  | [], [], _, _, _ => rfl
  | [], _ :: _, _, _, h => by simp [putL] at h
  | _ :: _, [], _, _, h => by simp [putL] at h
  | t :: ts, d :: ds, σD, σ2, h => by
    simp only [putL] at h
    cases e1 : t.put d σD with
    | none => rw [e1] at h; cases h
    | some σ1 =>
      rw [e1] at h
      have := putL_len ts (show putL ts ds σ1 = some σ2 from h)
      simp [this]
end
/-- tests of a comprehension -/
def DTs (X : Cx) (W : WX) (ifs : List Expr) (t : TTD) : Prop := PTs X ifs (lftT X.K W t)
def dYes : TTD := fun _ G Q _ => Q true G
theorem dts_nil : DTs X W [] dYes := ⟨fun pins s σ H Q I ⟨σD, G, QD, E, hR, hS, q, hq, he⟩ => pts_nil.run pins s σ H Q I (hq _ _ _ Stp.refl hR q)⟩
theorem dts_one (h : DT X W c tA) : DTs X W [c] tA := pts_one h
/-- [e for g in it if c]; fr: the new list is frozen at the end -/
def dLc (fr : Bool) (wi : TID) (g : Tgt) (tt : TTD) (te : TED) (vs : List Nat) : TED := fun σ G Q E => wi σ G (fun items ok G1 => ∀ p, G1 p = none → ∃ Iv : List D → HH → Prop, Iv [] (gput G1 p (.lst [])) ∧ (∀ pre G, Iv pre G → ok G) ∧
  (∀ pre x post G, items = pre ++ x :: post → Iv pre G → ∃ σ2, g.put x (wipeD σ vs) = some σ2 ∧ tt σ2 G (fun b G3 => if b = true then te σ2 G3 (fun y G4 => ∃ acc, G4 p = some (.lst acc) ∧ acc.length < sizeLine ∧ Iv (pre ++ [x]) (gput G4 p (.lst (acc ++ [y])))) (fun _ _ => False) else Iv (pre ++ [x]) G3) (fun _ _ => False)) ∧
  (∀ G, Iv items G → ∃ acc, G p = some (.lst acc) ∧ (if fr = true then Q (.lst acc) (gdel G p) else Q (.ref p) G))) E
theorem de_lc {elt tg iter : Expr} {ifs : List Expr} {scope : Scope} {own : List (Str × Nat)} {wi : TID} {tt : TTD} {te : TED} (fr : Bool) (g : Tgt) (hc : X.calm = true) (hN : X.N.Nodup) (hi : DI X W tg iter wi) (ok : BlkOk X.N X.env.scope scope own)
    (hsl : ∀ i ∈ g.slots, i ∈ own.map (·.2))
    (hg : ∀ (s : Shared) (H : Hp) (C : Addr) (cl : List (Str × Addr)) (fp : List Addr), PG (X.blk s H scope (compEnvC scope cl C X.env) fp) tg (g.v X.K)) (ht : ∀ (s : Shared) (H : Hp) (C : Addr) (cl : List (Str × Addr)) (fp : List Addr), DTs (X.blk s H scope (compEnvC scope cl C X.env) fp) W0 ifs tt)
    (he : ∀ (s : Shared) (H : Hp) (C : Addr) (cl : List (Str × Addr)) (fp : List Addr), DE (X.blk s H scope (compEnvC scope cl C X.env) fp) W0 elt te) (hs : ∀ x, foldedSetIterable iter X.env x = pure x := by intro _; rfl) :
    DE X W (.ListComp elt [⟨tg, iter, ifs, 0⟩] scope pos) (dLc fr wi g tt te (own.map (·.2))) :=
  PE.imp (pe_lc (g := g.v X.K) (tt := lftT X.K W0 tt) (te := lft X.K W0 te) hc hN hi ok hg ht he hs) fun σ H Q ⟨σD, G, QD, E, hR, hS, q, hq, hE⟩ => by
    refine ⟨σD, G, _, E, hR, hS, q, fun J H1 items okk G1 s1 r1 itr z => ?_, hE⟩
    intro p hp
    obtain ⟨Iv, i0, iok, istep, iend⟩ := z p (r1.free hp)
    have sN := Stp.newM (G := G1) (o := .lst []) (od := .lst []) hp
    have rN := r1.newM (o := .lst []) (od := .lst []) hp ⟨[], upd_same, .nil⟩
    refine ⟨fun i m H' => m = items.length - i ∧ i ≤ items.length ∧ ∃ G', Stp H1 G1 H' G' ∧ RelH X.K H' G' ∧ Iv (items.take i) G', ⟨items.length, by simp, Nat.zero_le _, gput G1 p (.lst []), sN, rN, by simpa using i0⟩, ?_⟩
    rintro i m H' ⟨rfl, hi, G', s', r', iv⟩
    obtain ⟨j1, j2⟩ := itr i H' G' s' r' (iok _ _ iv)
    by_cases hlt : i < items.length
    · obtain ⟨d, hd⟩ : ∃ d, items[i]? = some d := ⟨items[i], List.getElem?_eq_getElem hlt⟩
      obtain ⟨jgo, jy⟩ := j1 d hd
      refine .inr ⟨jgo, fun H'' => ∃ G'', Stp H1 G1 H'' G'' ∧ RelH X.K H'' G'' ∧ Iv (items.take (i + 1)) G'', fun H'' z => ⟨items.length - (i + 1), by omega, rfl, hlt, z⟩, fun x H3 y => ?_⟩
      obtain ⟨s3, r3, px⟩ := jy x H3 y
      obtain ⟨σ2, hput, stp⟩ := istep _ d _ G' (split_at hd) iv
      have s13 := s'.trans s3
      have hw := ((hS.mono s1).mono s13).wipe (own.map (·.2))
      refine Tgt.ok g hsl px hw hput fun σ' h' a' => ⟨?_, ?_⟩
      · exact wipe_eq (by rw [← a'.1, wipe_length]) fun i hi => by rw [← a'.2 i hi, wipe_out hi]
      refine ⟨σ2, G', _, _, r3, h', stp, fun b H4 G4 s4 r4 z4 => ?_, exs0⟩
      cases b with
      | false =>
        dsimp only at z4 ⊢
        rw [if_neg Bool.false_ne_true] at z4 ⊢
        exact ⟨G4, s13.trans s4, r4, by rw [take_snoc hd]; exact z4⟩
      | true =>
        dsimp only at z4 ⊢
        rw [if_pos rfl] at z4 ⊢
        refine ⟨σ2, G4, _, _, r4, h'.mono s4, z4, fun w H5 dw G5 s5 r5 p5 ⟨acc, e5, l5, z5⟩ => ?_, exs0⟩
        obtain ⟨vs, h, rr⟩ := r5 _ _ e5
        have s6 := Stp.put (H := H5) (o := .lst (vs ++ [w])) (od := .lst (acc ++ [dw])) e5
        refine ⟨vs, h, by rw [← rr.length]; exact l5, gput G5 p (.lst (acc ++ [dw])), ((s13.trans s4).trans s5).trans s6, r5.put e5 ⟨_, upd_same, (rr.mono s6).append (.cons (p5.mono s6) .nil)⟩, ?_⟩
        rw [take_snoc hd]; exact z5
    · have e : i = items.length := by omega
      subst e
      rw [List.take_length] at iv
      refine .inl ⟨j2 (Nat.le_refl _), ?_⟩
      obtain ⟨acc, ea, z⟩ := iend _ iv
      have s1' := s1.trans s'
      cases fr with
      | true =>
        rw [if_pos rfl] at z
        exact hq _ _ _ _ (s1'.trans Stp.del) r'.del (thaw_lst r' ea) z
      | false =>
        rw [if_neg Bool.false_ne_true] at z
        exact hq _ _ _ _ s1' r' (.ref p) z
end DL

namespace DL
open PySem PySem.Spec PyProof.Rows L2
open PySem.W (Frag)

/-! ### a def keeps its promise -/
def startD (N : List Str) (ds : List D) : SD := ds.map some ++ List.replicate (N.length - ds.length) none
theorem SRp.start {K : Frag} {H G} {N : List Str} {ds : List D} {vs : List V} (r : Rps K H G ds vs) : SRp K H G (startD N ds) (L2.start N vs) := by
  have hl := r.length
  refine ⟨by simp [startD, L2.start, hl], fun i d e => ?_⟩
  unfold startD at e
  by_cases hi : i < ds.length
  · rw [List.getElem?_append_left (by simpa using hi), List.getElem?_map] at e
    cases e1 : ds[i]? with
    | none => rw [e1] at e; cases e
    | some d' =>
      rw [e1] at e
      cases e
      obtain ⟨v, hv, rv⟩ := r.get e1
      refine ⟨v, ?_, rv⟩
      unfold L2.start
      rw [List.getElem?_append_left (by rw [List.length_map]; omega), List.getElem?_map, hv]
      rfl
  · rw [List.getElem?_append_right (by simpa using hi), List.getElem?_replicate] at e
    split at e <;> cases e
section
variable {P : Program} {w : World} {K : Frag} {mg : Str → Option Value} {base : Heap}
/-- the wish of a def about exceptions -/
abbrev WD (E : XK) : WX := fun cls d _ H => E cls d H
theorem FunG.ok {x qual : Str} {st : Stmt} {f : Addr} {fd : FuncData} {N ps : List Str} {k : Nat} {sp : SpD} (F : Fun K x qual st f fd) (S : FnScope N ps (defScope st)) (len : ∀ ds G Q E, sp ds G Q E → ds.length = ps.length)
    (hbody : ∀ (cdv : Value) (A : Around) (outer : List Env) (s : Shared) (H : Hp) (E : XK), A.guards = some [] → Room k (A.deeper (envOfC qual (defScope st) s.heap.objs.size f cdv)) →
      ∃ t, DSs (cxOf (L2.CX P w) P w K mg base N qual (defScope st) f cdv A outer s H E) (WD E) (defBody st) t ∧
        ∀ ds G Q EX, sp ds G Q EX → t { nx := fun _ G' => Q .non G', rt := Q, ex := fun x _ G' => EX x G' } (startD N ds) G) : FnG P w K mg base (k + 1) f fd ps sp := by
  obtain ⟨oc, od, kV, doc, pm, an, cdv, ct, osl, rfl, lk, hcd⟩ := F.ex
  refine ⟨len, fun A outer s H args us vs Q E hgd hr e0 hb r hsp => ?_⟩
  obtain ⟨ds, G, QD, EX, hR, hrp, hq, hct, hex⟩ := hsp
  have inK : K.In s.heap := e0.mod.kin.keeps fun b o q => (e0.bs b o q).1
  have nolim : s.heap.NoLimit := e0.mod.nolimit.keeps fun b o q => (e0.bs b o q).1
  have hvl : vs.length = ps.length := by rw [← hrp.length]; exact len _ _ _ _ hq
  have kinds : ∀ y ∈ ps.zip us, (defScope st).names.lookup y.1 = some .local ∨ ((defScope st).names.lookup y.1 = some .cell ∧ ((cellsFrom (s.heap.objs.size + 1) (defScope st).names []).lookup y.1).isSome = true) := by
    rintro ⟨n, v⟩ hy
    rcases S.par n (List.of_mem_zip hy).1 with q | q
    · exact .inl q
    · exact .inr ⟨q, PySem.W.cellsFrom_some _ _ _ (.inl q)⟩
  refine codeAny_call_function hr.depth (inK _ _ lk) rfl S.co S.gen rfl (PySem.W.codeRec_of inK hcd) (hb _ _ _ _ ?_)
  refine wpAny_newFunctionEnv_cells S.kind kinds fun env henv s1 xc => ?_
  subst henv
  refine ⟨nolim.keeps xc.toInCall.keep, codeAny_func ?_⟩
  obtain ⟨t, ht, hv⟩ := hbody cdv A outer s H E hgd (hr.deeper _)
  have I0 := inv_start (CX := L2.CX P w) (E := E) S hr.hd e0 hvl r xc
  refine wpAny_mono (ht.run [] s1 (L2.start N vs) H { nx := fun _ H' => Q .non H', rt := Q } I0 ?_) (fun fl s' hs => ?_) fun e s' hs => hs
  · refine ⟨startD N ds, G, _, hR, SRp.start hrp, hv ds G QD EX hq, ⟨fun _ H' _ G' s r _ z => hct _ _ _ _ s r .non z, hct, fun _ _ _ _ _ _ _ z => z.elim, fun _ _ _ _ _ _ _ z => z.elim, fun x cls d _ _ H' G' s r _ p z => hex x cls d H' G' s r p z⟩⟩
  · cases fl with
    | ret u =>
      obtain ⟨v, σ', H', J, rv, q⟩ := hs
      exact ⟨v, H', J.os, J.bare, J.base, J.hok, rv, q⟩
    | next =>
      obtain ⟨σ', H', J, q⟩ := hs
      exact ⟨V.non, H', J.os, J.bare, J.base, J.hok, rfl, q⟩
    | brk => exact hs.elim fun _ ⟨_, _, z⟩ => z.elim
    | cont => exact hs.elim fun _ ⟨_, _, z⟩ => z.elim
end

/-! ### the law -/
/-- the bits of a script's numbers -/
def BB : Nat := 1048576
def Bits (ns : List Int) : Prop := ∀ z ∈ ns, z.natAbs < 2 ^ BB
theorem bits_of {z : Int} {b : Nat} (h : Builtin.Int.intBits z ≤ b) : z.natAbs < 2 ^ b := by
  unfold Builtin.Int.intBits at h
  by_cases e : z = 0
  · subst e; exact Nat.pos_of_ne_zero (by simp)
  · rw [if_neg (by simpa using e)] at h
    exact (Nat.log2_lt (by omega)).mp (by omega)
/-- what the law's def promises: of a script it gives True -/
def spLaw (n : Nat) : SpD := fun ds G Q _ => ∃ ns : List Int, ds = [.wls (ns.map D.int)] ∧ ns.length ≤ n ∧ Bits ns ∧ G = (fun _ => none) ∧ ∀ G', Q (.bl true) G'
theorem law_callG {P : Program} {w : World} {K : Frag} {mg mb : Str → Option Value} {n k : Nat} {fa a : Addr} {fd : FuncData} {x : Str} {s₁ : Shared} {vs : List Value} {ns : List Int}
    (KX : K.In s₁.heap) (hns : s₁.heap.Ns mainGlobals mg) (hb : s₁.heap.Ns builtinsNs mb) (hbb : ∀ x : Str, x ≠ "__name__" → mb x = bootBuiltins x) (hlim : s₁.heap.NoLimit) (hg : s₁.gens = #[])
    (ha : s₁.heap.get? a = some { cls := .type "list", data := .seq vs.toArray }) (hi : IntsAre vs ns) (hl : ns.length ≤ n) (hbt : Bits ns) (hn : n ≤ sizeLine) (hr : Room k callerA)
    (F : ∀ base : Heap, K.In base → base.Ns mainGlobals mg → FnG P w K mg base k fa fd [x] (spLaw n)) (hbind : ∀ (s : Shared) (u : Value), BindsTo s fd ⟨[u], []⟩ [(x, u)]) :
    codeAny (model P w) callerA (.call (.ref fa) ⟨[.ref a], []⟩) (fun r s' => r = .ok (.ret (.bool true)) ∧ OldK s₁.heap s'.heap ∧ s'.os = s₁.os ∧ AllBare s'.gens) s₁ := by
  have rv := vals_ints hi
  have lenV := hi.length
  have hl' : ns.length ≤ sizeLine := Nat.le_trans hl hn
  -- the abstract heap: the script locked, if it is none of the written part
  obtain ⟨H, hO, hS, hok, hA, hK⟩ : ∃ H : Hp, Only H ∧ (Rd H a (.lst (ns.map V.int)) ∨ ∃ (o : Obj) (its : Array Value) (n : Nat), K.lookup a = some o ∧ o.cls = .type "list" ∧ o.dict = none ∧ o.data = .seq its n ∧ its.size ≤ sizeLine ∧ Vals (ns.map V.int) its.toList) ∧
      HOk P w H s₁.heap ∧ (∀ b, H b ≠ none → b = a) ∧ (H a ≠ none → K.lookup a = none) := by
    cases hk : K.lookup a with
    | some o =>
      have e := KX a o hk
      rw [ha] at e
      cases e
      exact ⟨fun _ => none, fun _ => .inl rfl, .inr ⟨_, vs.toArray, _, rfl, rfl, rfl, rfl, by rw [List.size_toArray, lenV]; exact hl', by simpa using rv⟩, (by intro b u z; cases z), fun b z => absurd rfl z, fun z => absurd rfl z⟩
    | none =>
      refine ⟨fun b => if b = a then some (.frz { cls := .type "list", data := .seq vs.toArray } (.lst (ns.map V.int))) else none, fun b => ?_, .inl (.inr ⟨_, if_pos rfl⟩), fun b u z => ?_, fun b z => ?_, fun _ => rfl⟩
      · by_cases hb : b = a
        · exact .inr ⟨_, _, if_pos hb⟩
        · exact .inl (if_neg hb)
      · by_cases hb : b = a
        · have z' := (if_pos hb).symm.trans z
          cases z'
          subst hb
          exact ⟨ha, by rw [List.length_map]; exact hl', vs, _, rv, ha⟩
        · exact absurd ((if_neg hb).symm.trans z) (by simp)
      · by_cases hb : b = a
        · exact hb
        · exact absurd (if_neg hb) z
  have baseAt : ∀ {b : Addr} {o : Obj}, s₁.heap.get? b = some o → H b = none → (hidT s₁.heap H).get? b = some o := fun q z => hidT_get q z
  have noDict : ∀ {b : Addr} {o : Obj} {es : Array DictEntry} {ep : Nat}, s₁.heap.get? b = some o → o.data = .dict es ep → H b = none := by
    intro b o es ep q dd
    cases z : H b with
    | none => rfl
    | some u =>
      have eb : b = a := hA b (by rw [z]; simp)
      subst eb
      rw [ha] at q; cases q
      cases (show Data.seq vs.toArray _ = Data.dict es ep from dd)
  have nsB : ∀ {b : Addr} {m : Str → Option Value}, s₁.heap.Ns b m → (hidT s₁.heap H).Ns b m := by
    rintro b m ⟨o, es, ep, q, dd, rest⟩
    exact ⟨o, es, ep, baseAt q (noDict q dd), dd, rest⟩
  have inB : K.In (hidT s₁.heap H) := by
    intro b o q
    refine baseAt (KX b o q) ?_
    cases z : H b with
    | none => rfl
    | some u =>
      have eb : b = a := hA b (by rw [z]; simp)
      subst eb
      rw [hK (by rw [z]; simp)] at q; cases q
  have hM : Mod K mg (hidT s₁.heap H) := ⟨inB, nsB hns, ⟨mb, nsB hb, hbb⟩, let ⟨mc, z1, z2⟩ := hlim; ⟨mc, nsB z1, z2⟩⟩
  have e0 : Env0 P w K mg (hidT s₁.heap H) callerA [] s₁ H := ⟨rfl, hM, fun b o q => of_hidT q, Nat.le_of_eq (hidT_size _ _), trivial, fun b z => absurd (show b ∈ ([] : List Addr) from z) (by simp), hok, .of_eq hg⟩
  have hsp : lsp K (spLaw n) [.ref a] H (fun v _ => v = .bl true) fun _ _ _ => False := by
    refine ⟨[.wls (ns.map D.int)], fun _ => none, fun d _ => d = .bl true, fun _ _ => False, (by intro p o z; cases z), .cons (.wls ?_ (Rps.of_ints ns)) .nil, ⟨ns, rfl, hl, hbt, rfl, fun _ => rfl⟩, fun v H' d G' _ _ p z => ?_, fun _ _ _ _ _ _ _ _ z => z⟩
    · exact hS.elim (fun z => .inl ⟨z, rfl⟩) .inr
    · subst z; cases p; rfl
  refine codeAny_mono ((F _ inB (nsB hns)).run callerA [] s₁ H ⟨[.ref a], []⟩ [.ref a] [.ref a] _ _ rfl hr e0 (hbind s₁ (.ref a)) (.cons rfl .nil) hsp) fun r s' h => ?_
  cases r with
  | error e =>
    obtain ⟨_, _, _, _, _, _, _, _, _, _, _, _, z⟩ := h
    exact z.elim
  | ok fl =>
    cases fl with
    | next => exact False.elim h
    | brk => exact False.elim h
    | cont => exact False.elim h
    | ret u =>
      obtain ⟨v, H', os, bare, un, hok', r', q⟩ := h
      have q' : v = .bl true := q
      subst q'
      obtain rfl : u = Value.bool true := r'
      refine ⟨rfl, OldK.of_keep fun b o q => ?_, os, bare⟩
      cases z : H b with
      | none => exact un.keep b o q z (by intro y; exact absurd (show b ∈ ([] : List Addr) from y) (by simp)) (by simp)
      | some u =>
        rcases hO b with y | ⟨ob, xs, y⟩
        · rw [z] at y; cases y
        · obtain ⟨e1, _⟩ := hok b _ y
          obtain ⟨e2, _⟩ := hok' b _ (un.frzs b ob _ y)
          rw [q] at e1; cases e1
          exact e2
theorem walkG {l : PySem.W.OpenLaw} {n k : Nat} {q : Program} {loose : List Str} {XP : (Str → Option Value) → Heap → Prop} {YP : World → Heap → Prop} {d : DefRec} {K : Params → Frag} {x : Str}
    (hn : l.most = some n) (hn2 : n ≤ sizeLine) (hdf : d.params.defaults = []) (hr : Room k callerA) (hY : ∀ (w : World) (h : Heap), YP w h → (K w.params).In h)
    (F : ∀ (w : World) (mg : Str → Option Value) (fa : Addr) (h : Heap), (K w.params).In h → h.Ns mainGlobals mg → mg d.name = some (.ref fa) →
      ∃ fd : FuncData, (∀ (s : Shared) (u : Value), BindsTo s fd ⟨[u], []⟩ [(x, u)]) ∧
        ∀ base : Heap, (K w.params).In base → base.Ns mainGlobals mg → FnG l.prog w (K w.params) mg base k fa fd [x] (spLaw n)) :
    PySem.W.WalkO q loose XP YP l.row.toRowW d [] (fun f vs => PySem.call f vs) := by
  refine Att.attach_callB hn hdf fun w s₀ s₁ mg mb fa o pm cd doc a vs ns G Y ho hd hcd hmg hobj hints hlen hbits hg => ?_
  have KX := hY w _ Y
  obtain ⟨fd, hb, hF⟩ := F w mg fa _ KX G.T.g hmg
  exact law_callG KX G.T.g G.T.b G.T.builtins G.T.nolimit hg hobj hints hlen (fun z hz => bits_of (hbits z hz)) hn2 hr hF hb
end DL

namespace DL
open PySem PySem.Spec PyProof.Rows L2
open PySem.W (Frag)
variable {X : Cx} {W : WX} {e a b c o : Expr} {es : List Expr} {ta tb tc to : TED} {t u tk : TAD} {tA tB' : TTD} {pos apos cpos : Pos} {st : Stmt} {rest body : List Stmt} {kws : List Keyword}

/-! ### keywords -/
/-- the arguments in the parameters' order -/
def pick {α : Type} (perm : List Nat) (l : List α) : List α := perm.filterMap fun i => l[i]?
theorem Vals.pick : ∀ {perm : List Nat} {xs : List V} {us : List Value}, Vals xs us → Vals (DL.pick perm xs) (DL.pick perm us)
  | [], _, _, _ => .nil
  | i :: perm, xs, us, r => by
    have ih := Vals.pick (perm := perm) r
    unfold DL.pick at ih ⊢
    cases e : xs[i]? with
    | none =>
      rw [List.filterMap_cons_none e, List.filterMap_cons_none (r.none_of e)]
      exact ih
    | some x =>
      obtain ⟨y, hy, ry⟩ := r.get e
      rw [List.filterMap_cons_some e, List.filterMap_cons_some hy]
      exact .cons ry ih
theorem Rps.pick {K H G} : ∀ {perm : List Nat} {ds : List D} {vs : List V}, Rps K H G ds vs → Rps K H G (DL.pick perm ds) (DL.pick perm vs)
  | [], _, _, _ => .nil
  | i :: perm, ds, vs, r => by
    have ih := Rps.pick (perm := perm) r
    unfold DL.pick at ih ⊢
    cases e : ds[i]? with
    | none =>
      have e2 : vs[i]? = none := List.getElem?_eq_none (by rw [← r.length]; exact List.getElem?_eq_none_iff.mp e)
      rw [List.filterMap_cons_none e, List.filterMap_cons_none e2]
      exact ih
    | some x =>
      obtain ⟨y, hy, ry⟩ := r.get e
      rw [List.filterMap_cons_some e, List.filterMap_cons_some hy]
      exact .cons ry ih
structure KBd (K : Frag) (fd : FuncData) (ps : List Str) (n : Nat) (ks : List Str) (perm : List Nat) : Prop where
  to : ∀ (s : Shared) (us ws : List Value), K.In s.heap → us.length = n → ws.length = ks.length → BindsTo s fd ⟨us, ks.zip ws⟩ (ps.zip (pick perm (us ++ ws)))
theorem fun_kbd {K : Frag} {x qual : Str} {st : Stmt} {f : Addr} {fd : FuncData} {ps ks : List Str} {n : Nat} {perm : List Nat} (F : Fun K x qual st f fd)
    (h : ∀ (kV doc pm : Value) (an : Option Addr) (cdv ct : Value) (us ws : List Value), us.length = n → ws.length = ks.length → bindArgs (PySem.W.fnOf x qual (defArgs st) (defBody st) (defScope st) .none kV doc pm an cdv ct) ⟨us, ks.zip ws⟩ = pure (ps.zip (pick perm (us ++ ws)))) : KBd K fd ps n ks perm := by
  obtain ⟨oc, od, kV, doc, pm, an, cdv, ct, osl, rfl, _, _⟩ := F.ex
  exact ⟨fun s us ws _ h1 h2 => .of_eq (h kV doc pm an cdv ct us ws h1 h2)⟩
def DK (X : Cx) (W : WX) (kws : List Keyword) (t : TAD) : Prop := PK X kws (lftA X.K W t)
theorem PK.imp {X : Cx} {es : List Keyword} {t t' : TA} (h : PK X es t) (i : ∀ σ H Q, t' σ H Q → t σ H Q) : PK X es t' := ⟨fun pos pins s σ H Q I q => h.run pos pins s σ H Q I (i σ H Q q)⟩
theorem dk_nil : DK X W [] dNil := PK.imp pk_nil fun σ H Q ⟨σD, G, QD, E, hR, hS, q, hq, he⟩ => hq _ _ _ _ Stp.refl hR .nil q
theorem dk_cons {nm : Option Str} {kpos : Pos} (ha : DE X W a ta) (hr : DK X W kws t) : DK X W (⟨nm, a, kpos⟩ :: kws) (dCons ta t) :=
  PK.imp (pk_cons ha hr) fun σ H Q ⟨σD, G, QD, E, hR, hS, q, hq, he⟩ => by
    refine ⟨σD, G, _, E, hR, hS, q, fun v1 H1 d1 G1 s1 r1 p1 q1 => ?_, he⟩
    refine ⟨σD, G1, _, E, r1, hS.mono s1, q1, fun vs H2 ds G2 s2 r2 p2 q2 => ?_, he.mono s1⟩
    exact hq _ _ _ _ (s1.trans s2) r2 (.cons (p1.mono s2) p2) q2
def dCallK (n m : Nat) (perm : List Nat) (sp : SpD) (t tk : TAD) : TED := fun σ G Q E => t σ G (fun ds G1 => tk σ G1 (fun zs G2 => ds.length = n ∧ zs.length = m ∧ sp (pick perm (ds ++ zs)) G2 Q E) E) E
section
variable {k : Nat} {f : Addr} {fd : FuncData} {ps ks : List Str} {sp : SpD} {x : Str} {p : Pos} {n : Nat} {perm : List Nat}
theorem run_callK {pins : List (Addr × Obj)} {σ : L2.St} {H : Hp} {s : Shared} {Q : VK} {us ws : List Value} {vs : List V} (F : FnG X.prog X.w X.K X.mg X.base k f fd ps sp) (hg : X.A.guards = some []) (hr : Room k X.A) (hb : KBd X.K fd ps n ks perm) (tkw : Takes X W)
    (I : Inv X pins σ H s) (r : Vals vs (us ++ ws)) (h1 : us.length = n) (h2 : ws.length = ks.length) (h : lsp X.K sp (pick perm vs) H Q (WE W σ)) : wpAny (model X.prog X.w) X.A (call (.ref f) us (ks.zip ws)) (EP X pins σ Q) X.xe s := by
  refine wpAny_call (codeAny_mono (run_any F hg hr tkw I (hb.to s us ws I.kIn h1 h2) (Vals.pick r) h) fun r s' hq => ?_)
  cases r with
  | error e => exact hq
  | ok fl =>
    cases fl with
    | ret u => exact hq
    | next => exact False.elim hq
    | brk => exact False.elim hq
    | cont => exact False.elim hq
/-- what stands behind the arguments of a call with keywords -/
def tCK (n m : Nat) (perm : List Nat) (sp : Sp) (E : L2.St → XK) (t tk : TA) : TE := fun σ H Q => t σ H fun vs H1 => tk σ H1 fun zs H2 => vs.length = n ∧ zs.length = m ∧ sp (pick perm (vs ++ zs)) H2 Q (E σ)
theorem lft_callK {K : Frag} {m : Nat} {σ H Q} (h : lft K W (dCallK n m perm sp t tk) σ H Q) : tCK n m perm (lsp K sp) (WE W) (lftA K W t) (lftA K W tk) σ H Q := by
  obtain ⟨σD, G, QD, E, hR, hS, ht, hq, he⟩ := h
  refine ⟨σD, G, _, E, hR, hS, ht, fun vs H1 ds G1 s1 r1 p1 q1 => ?_, he⟩
  refine ⟨σD, G1, _, E, r1, hS.mono s1, q1, fun zs H2 es G2 s2 r2 p2 ⟨l1, l2, q2⟩ => ?_, he.mono s1⟩
  exact ⟨by rw [← p1.length]; exact l1, by rw [← p2.length]; exact l2, pick perm (ds ++ es), G2, QD, E, r2, Rps.pick ((p1.mono s2).append p2), q2, hq.mono (s1.trans s2), he.mono (s1.trans s2)⟩
theorem de_callK0 {m : Nat} (F : FnG X.prog X.w X.K X.mg X.base k f fd ps sp) (hgd : X.A.guards = some []) (hr : Room k X.A) (hg : Gl X x) (hm : X.mg x = some (.ref f)) (hk : PySem.W.keepIn X.K (.ref f) = true) (hb : KBd X.K fd ps 0 ks perm) (tkw : Takes X W) (hkw : DK X W kws tk)
    (hlen : ks.length = m := by rfl) (hall : (backToKw pos (keywordEach kws X.env)).all (·.1.isSome) = true := by rfl) (hks : (backToKw pos (keywordEach kws X.env)).filterMap (·.1) = ks := by rfl) (hdb : (x == ("__debug__" : Str)) = false := by decide)
    (hpl : ((backTo pos (starEach [] X.env)).any (·.1) || (backToKw pos (keywordEach kws X.env)).any (·.1.isNone)) = false := by rfl) :
    DE X W (.Call (.Name x p) [] kws pos) (dCallK 0 m perm sp dNil tk) := by
  subst hlen
  refine PE.imp (t := tCK 0 ks.length perm (lsp X.K sp) (WE W) tNil (lftA X.K W tk)) ⟨fun pins s σ H Q I h => ?_⟩ fun σ H Q h => ?_
  · refine wpAny_Call_Name_kw (ld_glob I hg hm ?_ hdb)
    refine PySem.W.callWith_KW0 (h₀ := X.base) I.ok.mod.kin hk hall ?_ hpl
    have hkw' : PK X kws (lftA X.K W tk) := hkw
    refine thn (hkw'.run pos pins s σ H _ I h) fun ws s2 ⟨zs, H2, I2, rz, l1, l2, q2⟩ => ⟨I2.kIn, ?_⟩
    rw [hks]
    exact run_callK (us := []) (vs := zs) F hgd hr hb tkw I2 rz rfl (by rw [← rz.length]; exact l2) (by simpa using q2)
  · obtain ⟨σD, G, QD, E, hR, hS, ht, hq, he⟩ := h
    refine ⟨σD, G, _, E, hR, hS, ht, fun zs H2 es G2 s2 r2 p2 ⟨l1, l2, q2⟩ => ?_, he⟩
    exact ⟨rfl, by rw [← p2.length]; exact l2, pick perm ([] ++ es), G2, QD, E, r2, Rps.pick (Rps.append .nil p2), q2, hq.mono s2, he.mono s2⟩
theorem de_callK {m : Nat} (F : FnG X.prog X.w X.K X.mg X.base k f fd ps sp) (hgd : X.A.guards = some []) (hr : Room k X.A) (hg : Gl X x) (hm : X.mg x = some (.ref f)) (hk : PySem.W.keepIn X.K (.ref f) = true) (hb : KBd X.K fd ps n ks perm) (tkw : Takes X W) (ha : DA X W (e :: es) t) (hkw : DK X W kws tk)
    (hlen : ks.length = m := by rfl) (hall : (backToKw pos (keywordEach kws X.env)).all (·.1.isSome) = true := by rfl) (hks : (backToKw pos (keywordEach kws X.env)).filterMap (·.1) = ks := by rfl) (hdb : (x == ("__debug__" : Str)) = false := by decide)
    (he : starEach (e :: es) X.env = (false, eval e X.env) :: starEach es X.env := by rfl)
    (hpl : ((backTo pos (starEach (e :: es) X.env)).any (·.1) || (backToKw pos (keywordEach kws X.env)).any (·.1.isNone)) = false := by rfl) :
    DE X W (.Call (.Name x p) (e :: es) kws pos) (dCallK n m perm sp t tk) := by
  subst hlen
  refine PE.imp (t := tCK n ks.length perm (lsp X.K sp) (WE W) (lftA X.K W t) (lftA X.K W tk)) ⟨fun pins s σ H Q I h => ?_⟩ fun _ _ _ => lft_callK
  refine wpAny_Call_Name_kw (ld_glob I hg hm ?_ hdb)
  have ha' : PA X (e :: es) (lftA X.K W t) := ha
  have hkw' : PK X kws (lftA X.K W tk) := hkw
  refine PySem.W.callWith_KW (h₀ := X.base) I.ok.mod.kin hk hall (thn (ha'.run pos pins s σ H _ I h) fun us s1 ⟨vs, H1, I1, r, q⟩ => ?_) hpl he
  refine thn (hkw'.run pos pins s1 σ H1 _ I1 q) fun ws s2 ⟨zs, H2, I2, rz, l1, l2, q2⟩ => ⟨I2.kIn, ?_⟩
  rw [hks]
  exact run_callK (us := us) F hgd hr hb tkw I2 (r.append rz) (by rw [← r.length]; exact l1) (by rw [← rz.length]; exact l2) q2
end

/-! ### sums of rules, by name -/
def aAny : D → D → HH → QD → Prop := fun x y G Q => oI (fun _ _ => True) (fun i j => .int (i + j)) x y G Q ∨ aStr x y G Q ∨ aLst x y G Q ∨ aTup x y G Q
theorem oAddTup : OpD X (binaryOp .Add) aTup := ⟨_, op_catA, fun x y H Q dx dy G QD hR px py ⟨xs, ys, e1, e2, l, q⟩ hq => by
  subst e1; subst e2
  cases px with
  | @tup a vs _ f r =>
    cases py with
    | @tup b us _ g r' =>
      refine ⟨a, b, vs, us, rfl, rfl, f.sq, g.sq, by rw [← r.length, ← r'.length]; exact l, fun e => ?_, fun _ e => ?_, fun _ _ p hp => hq.tup hR hp (r.append r') q⟩
      · subst e
        cases r
        exact hq.now hR (.tup g r') q
      · subst e
        cases r'
        rw [List.append_nil] at q
        exact hq.now hR (.tup f r) q⟩
theorem oAdd : OpD X (binaryOp .Add) aAny := oAddI.or (oAddStr.or (oAddLst.or oAddTup))
def mAny : D → D → HH → QD → Prop := fun x y G Q => oI CMulX (fun i j => .int (i * j)) x y G Q ∨ mRep x y G Q
theorem oMul : OpD X (binaryOp .Mult) mAny := oMulI.or oMulL
abbrev aSub := oI (fun _ _ => True) fun i j => .int (i - j)
abbrev aDiv := oI CDivW fun i j => .int (i / j)
abbrev aMod := oI (fun _ j => 0 < j) fun i j => .int (i % j)
abbrev aPow := oI CPow fun i j => .int (i ^ j.toNat)
abbrev aShl := oI CShl fun i j => .int (i * 2 ^ j.toNat)
abbrev aAnd := oI (fun _ _ => True) fun i j => .int (Builtin.bitAnd i j)
abbrev cLtI := oI (fun _ _ => True) fun i j => .bl (decide (i < j))
abbrev cLeI := oI (fun _ _ => True) fun i j => .bl (decide (i ≤ j))
abbrev cGtI := oI (fun _ _ => True) fun i j => .bl (decide (j < i))
abbrev cGeI := oI (fun _ _ => True) fun i j => .bl (decide (j ≤ i))
abbrev uNeg := uI fun i => .int (-i)
end DL

namespace DL
open PySem PySem.Spec PyProof.Rows L2
open PySem.W (Frag)
variable {X : Cx} {W : WX} {a b c o : Expr} {es : List Expr}

/-! ### name = [..] on one line -/
theorem lc_lift {K : Frag} {W : WX} {σ : L2.St} {H : Hp} {Q : VK} {wi : TID} {tt : TTD} {te : TED} {fr : Bool} {g : Tgt} {vs : List Nat} (hsl : ∀ i ∈ g.slots, i ∈ vs) (h : lft K W (dLc fr wi g tt te vs) σ H Q) : tLc (lftI K W wi) (g.v K) (lftT K W0 tt) (lft K W0 te) vs σ H Q := by
  obtain ⟨σD, G, QD, E, hR, hS, q, hq, hE⟩ := h
  refine ⟨σD, G, _, E, hR, hS, q, fun J H1 items okk G1 s1 r1 itr z => ?_, hE⟩
  intro p hp
  obtain ⟨Iv, i0, iok, istep, iend⟩ := z p (r1.free hp)
  have sN := Stp.newM (G := G1) (o := .lst []) (od := .lst []) hp
  have rN := r1.newM (o := .lst []) (od := .lst []) hp ⟨[], upd_same, .nil⟩
  refine ⟨fun i m H' => m = items.length - i ∧ i ≤ items.length ∧ ∃ G', Stp H1 G1 H' G' ∧ RelH K H' G' ∧ Iv (items.take i) G', ⟨items.length, by simp, Nat.zero_le _, gput G1 p (.lst []), sN, rN, by simpa using i0⟩, ?_⟩
  rintro i m H' ⟨rfl, hi, G', s', r', iv⟩
  obtain ⟨j1, j2⟩ := itr i H' G' s' r' (iok _ _ iv)
  by_cases hlt : i < items.length
  · obtain ⟨d, hd⟩ : ∃ d, items[i]? = some d := ⟨items[i], List.getElem?_eq_getElem hlt⟩
    obtain ⟨jgo, jy⟩ := j1 d hd
    refine .inr ⟨jgo, fun H'' => ∃ G'', Stp H1 G1 H'' G'' ∧ RelH K H'' G'' ∧ Iv (items.take (i + 1)) G'', fun H'' z => ⟨items.length - (i + 1), by omega, rfl, hlt, z⟩, fun x H3 y => ?_⟩
    obtain ⟨s3, r3, px⟩ := jy x H3 y
    obtain ⟨σ2, hput, stp⟩ := istep _ d _ G' (split_at hd) iv
    have s13 := s'.trans s3
    have hw := ((hS.mono s1).mono s13).wipe vs
    refine Tgt.ok g hsl px hw hput fun σ' h' a' => ⟨?_, ?_⟩
    · exact wipe_eq (by rw [← a'.1, wipe_length]) fun i hi => by rw [← a'.2 i hi, wipe_out hi]
    refine ⟨σ2, G', _, _, r3, h', stp, fun b H4 G4 s4 r4 z4 => ?_, exs0⟩
    cases b with
    | false =>
      dsimp only at z4 ⊢
      rw [if_neg Bool.false_ne_true] at z4 ⊢
      exact ⟨G4, s13.trans s4, r4, by rw [take_snoc hd]; exact z4⟩
    | true =>
      dsimp only at z4 ⊢
      rw [if_pos rfl] at z4 ⊢
      refine ⟨σ2, G4, _, _, r4, h'.mono s4, z4, fun w H5 dw G5 s5 r5 p5 ⟨acc, e5, l5, z5⟩ => ?_, exs0⟩
      obtain ⟨us, h, rr⟩ := r5 _ _ e5
      have s6 := Stp.put (H := H5) (o := .lst (us ++ [w])) (od := .lst (acc ++ [dw])) e5
      refine ⟨us, h, by rw [← rr.length]; exact l5, gput G5 p (.lst (acc ++ [dw])), ((s13.trans s4).trans s5).trans s6, r5.put e5 ⟨_, upd_same, (rr.mono s6).append (.cons (p5.mono s6) .nil)⟩, ?_⟩
      rw [take_snoc hd]; exact z5
  · have e : i = items.length := by omega
    subst e
    rw [List.take_length] at iv
    refine .inl ⟨j2 (Nat.le_refl _), ?_⟩
    obtain ⟨acc, ea, z⟩ := iend _ iv
    have s1' := s1.trans s'
    cases fr with
    | true =>
      rw [if_pos rfl] at z
      exact hq _ _ _ _ (s1'.trans Stp.del) r'.del (thaw_lst r' ea) z
    | false =>
      rw [if_neg Bool.false_ne_true] at z
      exact hq _ _ _ _ s1' r' (.ref p) z
theorem ds_setLc {i : Nat} {y : Str} {py : Pos} {elt tg iter : Expr} {ifs : List Expr} {scope : Scope} {own : List (Str × Nat)} {pos spos : Pos} {wi : TID} {tt : TTD} {te : TED} (hc : X.calm = true) (hN : X.N.Nodup) (hy : X.N[i]? = some y) (hyl : X.env.scope.names.lookup y = some .local)
    (hsw : swapsWith (.ListComp elt [⟨tg, iter, ifs, 0⟩] scope pos) (some (.Name y py)) spos.line X.env = pure true) (fr : Bool) (g : Tgt) (hi : DI X W tg iter wi) (ok : BlkOk X.N X.env.scope scope own)
    (hsl : ∀ i ∈ g.slots, i ∈ own.map (·.2))
    (hg : ∀ (s : Shared) (H : Hp) (C : Addr) (cl : List (Str × Addr)) (fp : List Addr), PG (X.blk s H scope (compEnvC scope cl C X.env) fp) tg (g.v X.K)) (ht : ∀ (s : Shared) (H : Hp) (C : Addr) (cl : List (Str × Addr)) (fp : List Addr), DTs (X.blk s H scope (compEnvC scope cl C X.env) fp) W0 ifs tt)
    (he : ∀ (s : Shared) (H : Hp) (C : Addr) (cl : List (Str × Addr)) (fp : List Addr), DE (X.blk s H scope (compEnvC scope cl C X.env) fp) W0 elt te) (hs : ∀ x, foldedSetIterable iter X.env x = pure x := by intro _; rfl) :
    DS X W (.Assign [.Name y py] (.ListComp elt [⟨tg, iter, ifs, 0⟩] scope pos) spos) (dAsg (dLc fr wi g tt te (own.map (·.2))) (gdName i)) :=
  PS.imp (ps_setLc (g := g.v X.K) (tt := lftT X.K W0 tt) (te := lft X.K W0 te) hc hN hy hyl hsw hi ok hg ht he hs) fun D σ H ⟨σD, G, DD, hR, hS, q, hE⟩ =>
    lc_lift (Q := fun x H1 => gName i x σ H1 D.nx) hsl ⟨σD, G, _, _, hR, hS, q, fun v H1 d G1 s r p z => hE.nx _ _ _ _ s r ((hS.mono s).set i p) z, hE.ex.at hS⟩

/-! ### steps -/
inductive GetAt : SD → Nat → D → Prop
  | z {d : D} {r : SD} : GetAt (some d :: r) 0 d
  | s {a : Option D} {r : SD} {i : Nat} {d : D} : GetAt r i d → GetAt (a :: r) (i + 1) d
theorem GetAt.at {σ i d} (h : GetAt σ i d) : σ[i]? = some (some d) := by
  induction h with
  | z => rfl
  | s _ ih => simpa using ih
inductive SetAt : SD → Nat → D → SD → Prop
  | z {a : Option D} {d : D} {r : SD} : SetAt (a :: r) 0 d (some d :: r)
  | s {a : Option D} {r r' : SD} {i : Nat} {d : D} : SetAt r i d r' → SetAt (a :: r) (i + 1) d (a :: r')
theorem SetAt.at {σ i d σ'} (h : SetAt σ i d σ') : σ.set i (some d) = σ' := by
  induction h with
  | z => rfl
  | s _ ih => simp [ih]
section
variable {σ σ' : SD} {G : HH} {Q : QD} {E : ED} {i j : Nat} {d d' : D} {ta tb : TED} {t u : TAD} {tA tB : TTD} {tS uS : TSD} {nx bk ct : SD → HH → Prop} {rt : QD} {ex : XD → SD → HH → Prop} {QT : Bool → HH → Prop} {QA : List D → HH → Prop} {N : SD → HH → Prop}
theorem st_var (h : GetAt σ i d) (q : Q d G) : dVar i σ G Q E := ⟨d, h.at, q⟩
theorem st_c (q : Q d G) : dC d σ G Q E := q
theorem st_op {rD} (h : ta σ G (fun x G1 => tb σ G1 (fun y G2 => rD x y G2 Q) E) E) : dOp rD ta tb σ G Q E := h
theorem st_un {rD} (h : ta σ G (fun x G1 => rD x G1 Q) E) : dUn rD ta σ G Q E := h
theorem st_nil (q : QA [] G) : dNil σ G QA E := q
theorem st_cons (h : ta σ G (fun d G1 => t σ G1 (fun ds G2 => QA (d :: ds) G2) E) E) : dCons ta t σ G QA E := h
theorem st_tup (h : t σ G (fun ds G1 => ds.length ≤ sizeLine ∧ Q (.tup ds) G1) E) : dTup t σ G Q E := h
theorem st_lst (h : t σ G (fun ds G1 => ds.length ≤ sizeLine ∧ Q (.lst ds) G1) E) : dLst t σ G Q E := h
theorem st_lstM (h : t σ G (fun ds G1 => ds.length ≤ sizeLine ∧ ∀ p, G1 p = none → Q (.ref p) (gput G1 p (.lst ds))) E) : dLstM t σ G Q E := h
theorem st_cb {rD : RCD} (h : t σ G (fun ds G1 => rD ds G1 Q) E) : dCB rD t σ G Q E := h
theorem st_call {sp : SpD} (h : t σ G (fun ds G1 => sp ds G1 Q E) E) : dCall sp t σ G Q E := h
theorem st_callK {n m perm} {sp : SpD} (h : t σ G (fun ds G1 => u σ G1 (fun zs G2 => ds.length = n ∧ zs.length = m ∧ sp (pick perm (ds ++ zs)) G2 Q E) E) E) : dCallK n m perm sp t u σ G Q E := h
theorem st_test (h : ta σ G (fun x G1 => ∃ k, x = .bl k ∧ QT k G1) E) : dTest ta σ G QT E := h
theorem st_bl {k} (q : QT k G) : ∃ k', D.bl k = .bl k' ∧ QT k' G := ⟨k, rfl, q⟩
theorem st_and (h : tA σ G (fun c G1 => if c = true then tB σ G1 QT E else QT false G1) E) : dAnd tA tB σ G QT E := h
theorem st_or (h : tA σ G (fun c G1 => if c = true then QT true G1 else tB σ G1 QT E) E) : dOr tA tB σ G QT E := h
theorem st_not (h : tA σ G (fun c G1 => QT (!c) G1) E) : dNot tA σ G QT E := h
theorem st_tru (h : ta σ G (fun x G1 => ∃ k, Tru G1 x k ∧ QT k G1) E) : dTru ta σ G QT E := h
theorem st_tru_bl {k} (q : QT k G) : ∃ k', Tru G (.bl k) k' ∧ QT k' G := ⟨k, .bl k, q⟩
theorem st_andV (h : ta σ G (fun x G1 => ∃ c, x = .bl c ∧ if c = true then tb σ G1 Q E else Q (.bl false) G1) E) : dAndV ta tb σ G Q E := h
theorem st_orV (h : ta σ G (fun x G1 => ∃ c, x = .bl c ∧ if c = true then Q (.bl true) G1 else tb σ G1 Q E) E) : dOrV ta tb σ G Q E := h
theorem st_notV (h : ta σ G (fun x G1 => ∃ c, x = .bl c ∧ Q (.bl (!c)) G1) E) : dNotV ta σ G Q E := h
theorem st_blq {k : Bool} {P : Bool → Prop} (q : P k) : ∃ c, D.bl k = .bl c ∧ P c := ⟨k, rfl, q⟩
theorem st_if (h : tA σ G (fun c G1 => if c = true then ta σ G1 Q E else tb σ G1 Q E) E) : dIf tA ta tb σ G Q E := h
theorem st_sl {tl th} (h : ta σ G (fun x G1 => tl σ G1 (fun lo G2 => th σ G2 (fun hi G3 => slD x lo hi G3 Q) E) E) E) : dSl ta tl th σ G Q E := h
theorem st_nopart {QO : Option Int → HH → Prop} (q : QO none G) : dNoPart σ G QO E := q
theorem st_part {QO : Option Int → HH → Prop} (h : ta σ G (fun x G1 => ∃ i, x = .int i ∧ QO (some i) G1) E) : dPart ta σ G QO E := h
theorem st_int {i : Int} {P : Int → Prop} (q : P i) : ∃ j, D.int i = .int j ∧ P j := ⟨i, rfl, q⟩
theorem st_isN {neg} (h : ta σ G (fun x G1 => ∃ k, (k = true → x = .non) ∧ (x = .non → k = true) ∧ Q (.bl (if neg then !k else k)) G1) E) : isN neg ta σ G Q E := h
-- statements
theorem st_seq (h : tS ⟨uS ⟨nx, rt, bk, ct, ex⟩, rt, bk, ct, ex⟩ σ G) : dSeq tS uS ⟨nx, rt, bk, ct, ex⟩ σ G := h
theorem st_next (h : nx σ G) : dNext ⟨nx, rt, bk, ct, ex⟩ σ G := h
theorem st_break (h : bk σ G) : dBreak ⟨nx, rt, bk, ct, ex⟩ σ G := h
theorem st_cont (h : ct σ G) : dCont ⟨nx, rt, bk, ct, ex⟩ σ G := h
theorem st_drop (h : ta σ G (fun _ G1 => nx σ G1) (fun x G1 => ex x σ G1)) : dDrop ta ⟨nx, rt, bk, ct, ex⟩ σ G := h
theorem st_ret (h : ta σ G rt (fun x G1 => ex x σ G1)) : dRet ta ⟨nx, rt, bk, ct, ex⟩ σ G := h
theorem st_retN (h : rt .non G) : dRetN ⟨nx, rt, bk, ct, ex⟩ σ G := h
theorem st_retF (h : ta σ G (fun d G1 => ∃ p xs, d = .ref p ∧ G1 p = some (.lst xs) ∧ rt (.lst xs) (gdel G1 p)) (fun x G1 => ex x σ G1)) : dRetF ta ⟨nx, rt, bk, ct, ex⟩ σ G := h
theorem st_ifS (h : tA σ G (fun b G1 => if b = true then tS ⟨nx, rt, bk, ct, ex⟩ σ G1 else uS ⟨nx, rt, bk, ct, ex⟩ σ G1) (fun x G1 => ex x σ G1)) : dIfS tA tS uS ⟨nx, rt, bk, ct, ex⟩ σ G := h
theorem st_asg {g : TGD} (h : ta σ G (fun x G1 => g x σ G1 nx) (fun x G1 => ex x σ G1)) : dAsg ta g ⟨nx, rt, bk, ct, ex⟩ σ G := h
theorem st_name (hs : SetAt σ i d σ') (h : N σ' G) : gdName i d σ G N := by unfold gdName; rw [hs.at]; exact h
theorem st_gtup {n ds} {tG : TGsD} (hl : ds.length = n) (h : tG ds σ G N) : gdTup n tG (.tup ds) σ G N := ⟨ds, rfl, hl, h⟩
theorem st_gnil (h : N σ G) : gdNil [] σ G N := ⟨rfl, h⟩
theorem st_gcons {tG : TGD} {uG : TGsD} {ds} (h : tG d σ G (fun σ' G' => uG ds σ' G' N)) : gdCons tG uG (d :: ds) σ G N := ⟨d, ds, rfl, h⟩
theorem st_gsub (h : ta σ G (fun x G1 => tb σ G1 (fun y G2 => ∃ p xs k j, x = .ref p ∧ y = .int k ∧ G2 p = some (.lst xs) ∧ ixN xs.length k = some j ∧ N σ (gput G2 p (.lst (xs.set j d)))) (fun _ _ => False)) (fun _ _ => False)) : gdSub ta tb d σ G N := h
theorem st_setat {p : Addr} {xs : List D} {k : Int} {jj : Nat} {P : HH → Prop} (hp : G p = some (.lst xs)) (hj : ixN xs.length k = some jj) (h : P (gput G p (.lst (xs.set jj d)))) : ∃ p' xs' k' j', D.ref p = .ref p' ∧ D.int k = .int k' ∧ G p' = some (.lst xs') ∧ ixN xs'.length k' = some j' ∧ P (gput G p' (.lst (xs'.set j' d))) := ⟨p, xs, k, jj, rfl, rfl, hp, hj, h⟩
theorem st_par (h : t σ G (fun ds G1 => ∃ d e, ds = [d, e] ∧ nx ((σ.set i (some d)).set j (some e)) G1) (fun x G1 => ex x σ G1)) : dPar i j t ⟨nx, rt, bk, ct, ex⟩ σ G := h
theorem st_par2 {e : D} {σ2 : SD} (h1 : SetAt σ i d σ') (h2 : SetAt σ' j e σ2) (h : N σ2 G) : ∃ d' e', [d, e] = [d', e'] ∧ N ((σ.set i (some d')).set j (some e')) G := ⟨d, e, rfl, by rw [h1.at, h2.at]; exact h⟩
theorem st_frz {p : Addr} {xs : List D} (hv : GetAt σ i (.ref p)) (hp : G p = some (.lst xs)) (hs : SetAt σ i (.lst xs) σ') (h : tS ⟨nx, rt, bk, ct, ex⟩ σ' (gdel G p)) : dFrz i tS ⟨nx, rt, bk, ct, ex⟩ σ G := ⟨p, xs, hv.at, hp, by rw [hs.at]; exact h⟩
-- what is walked
theorem st_iTup {R : List D → (HH → Prop) → HH → Prop} (h : ta σ G (fun x G1 => ∃ xs, x = .tup xs ∧ R xs okT G1) E) : iTupD ta σ G R E := h
theorem st_tupq {xs : List D} {P : List D → Prop} (q : P xs) : ∃ ys, D.tup xs = .tup ys ∧ P ys := ⟨xs, rfl, q⟩
theorem st_iLst {R : List D → (HH → Prop) → HH → Prop} (h : ta σ G (fun x G1 => ∃ xs, LsW G1 x xs ∧ R xs (okL x xs) G1) E) : iLstD ta σ G R E := h
theorem st_lsq {xs : List D} {P : List D → Prop} (q : P xs) : ∃ ys, LsW G (.lst xs) ys ∧ P ys := ⟨xs, .lst xs, q⟩
theorem st_wlsq {xs : List D} {P : List D → Prop} (q : P xs) : ∃ ys, LsW G (.wls xs) ys ∧ P ys := ⟨xs, .wls xs, q⟩
theorem st_rng1 {R : List D → (HH → Prop) → HH → Prop} (h : t σ G (fun ds G1 => ∃ j : Int, ds = [.int j] ∧ -(2 ^ 62) ≤ j ∧ j < 2 ^ 62 ∧ R (rgItems 0 j.toNat) okT G1) E) : iRngD1 t σ G R E := h
theorem st_rng1q {j : Int} {P : Int → Prop} (h1 : -(2 ^ 62) ≤ j) (h2 : j < 2 ^ 62) (h : P j) : ∃ j' : Int, [D.int j] = [.int j'] ∧ -(2 ^ 62) ≤ j' ∧ j' < 2 ^ 62 ∧ P j' := ⟨j, rfl, h1, h2, h⟩
theorem st_rng2 {R : List D → (HH → Prop) → HH → Prop} (h : t σ G (fun ds G1 => ∃ i j : Int, ds = [.int i, .int j] ∧ (-(2 ^ 62) ≤ i ∧ i < 2 ^ 62 ∧ -(2 ^ 62) ≤ j ∧ j < 2 ^ 62) ∧ R (rgItems i (j - i).toNat) okT G1) E) : iRngD2 t σ G R E := h
theorem st_rng2q {i j : Int} {P : Int → Int → Prop} (hh : -(2 ^ 62) ≤ i ∧ i < 2 ^ 62 ∧ -(2 ^ 62) ≤ j ∧ j < 2 ^ 62) (h : P i j) : ∃ i' j' : Int, [D.int i, D.int j] = [.int i', .int j'] ∧ (-(2 ^ 62) ≤ i' ∧ i' < 2 ^ 62 ∧ -(2 ^ 62) ≤ j' ∧ j' < 2 ^ 62) ∧ P i' j' := ⟨i, j, rfl, hh, h⟩
-- values
theorem st_oI {C : Int → Int → Prop} {g : Int → Int → D} {x y : Int} (hc : C x y) (h : Q (g x y) G) : oI C g (.int x) (.int y) G Q := ⟨x, y, rfl, rfl, hc, h⟩
theorem st_oI0 {g : Int → Int → D} {x y : Int} (h : Q (g x y) G) : oI (fun _ _ => True) g (.int x) (.int y) G Q := ⟨x, y, rfl, rfl, trivial, h⟩
theorem st_uI {g : Int → D} {x : Int} (h : Q (g x) G) : uI g (.int x) G Q := ⟨x, rfl, h⟩
theorem st_addI {x y : Int} (h : Q (.int (x + y)) G) : aAny (.int x) (.int y) G Q := .inl ⟨x, y, rfl, rfl, trivial, h⟩
theorem st_addS {x y : Str} (hl : x.length + y.length ≤ sizeLine) (h : Q (.str (x ++ y)) G) : aAny (.str x) (.str y) G Q := .inr (.inl ⟨x, y, rfl, rfl, hl, h⟩)
theorem st_addL {x y : D} {xs ys : List D} (h1 : Ls G x xs) (h2 : Ls G y ys) (hl : xs.length + ys.length ≤ sizeLine) (h : Q (.lst (xs ++ ys)) G) : aAny x y G Q := .inr (.inr (.inl ⟨xs, ys, h1, h2, hl, h⟩))
theorem st_addT {xs ys : List D} (hl : xs.length + ys.length ≤ sizeLine) (h : Q (.tup (xs ++ ys)) G) : aAny (.tup xs) (.tup ys) G Q := .inr (.inr (.inr ⟨xs, ys, rfl, rfl, hl, h⟩))
theorem st_mulI {x y : Int} (hc : CMulX x y) (h : Q (.int (x * y)) G) : mAny (.int x) (.int y) G Q := .inl ⟨x, y, rfl, rfl, hc, h⟩
theorem st_mulL {x : D} {xs : List D} {k : Int} (h1 : Ls G x xs) (hk : -(2 ^ 63) ≤ k ∧ k < 2 ^ 63) (hl : xs.length * k.toNat ≤ sizeLine) (h : Q (.lst (List.replicate k.toNat xs).flatten) G) : mAny x (.int k) G Q := .inr ⟨xs, k, h1, rfl, hk.1, hk.2, hl, h⟩
theorem st_eqI {x y : Int} (h : Q (.bl (decide (x = y))) G) : eAny false (.int x) (.int y) G Q := .inl ⟨_, _, rfl, rfl, rfl, by
  have e : decide (V.int x = V.int y) = decide (x = y) := by simp
  show Q (.bl (if false = true then _ else _)) G
  rw [if_neg Bool.false_ne_true, e]; exact h⟩
theorem st_neI {x y : Int} (h : Q (.bl (!decide (x = y))) G) : eAny true (.int x) (.int y) G Q := .inl ⟨_, _, rfl, rfl, rfl, by
  have e : decide (V.int x = V.int y) = decide (x = y) := by simp
  show Q (.bl (if true = true then _ else _)) G
  rw [if_pos rfl, e]; exact h⟩
theorem st_eqS {x y : Str} (h : Q (.bl (decide (x = y))) G) : eAny false (.str x) (.str y) G Q := .inl ⟨_, _, rfl, rfl, rfl, by
  have e : decide (V.str x = V.str y) = decide (x = y) := by simp
  show Q (.bl (if false = true then _ else _)) G
  rw [if_neg Bool.false_ne_true, e]; exact h⟩
theorem st_neS {x y : Str} (h : Q (.bl (!decide (x = y))) G) : eAny true (.str x) (.str y) G Q := .inl ⟨_, _, rfl, rfl, rfl, by
  have e : decide (V.str x = V.str y) = decide (x = y) := by simp
  show Q (.bl (if true = true then _ else _)) G
  rw [if_pos rfl, e]; exact h⟩
theorem st_eqP {x y : D} {p q : PyData} (h1 : Py G x p) (h2 : Py G y q) (s1 : SeqAt.shaped p = true) (s2 : SeqAt.shaped q = true) (h : Q (.bl (PyData.eqv p q)) G) : eAny false x y G Q := .inr ⟨p, q, h1, h2, s1, s2, h⟩
theorem st_neP {x y : D} {p q : PyData} (h1 : Py G x p) (h2 : Py G y q) (s1 : SeqAt.shaped p = true) (s2 : SeqAt.shaped q = true) (h : Q (.bl (!PyData.eqv p q)) G) : eAny true x y G Q := .inr ⟨p, q, h1, h2, s1, s2, h⟩
theorem st_ix {x : D} {xs : List D} {k : Int} (hs : Sq G x xs) (hk : atI xs k = some d) (h : Q d G) : xAny x (.int k) G Q := .inl ⟨xs, k, d, hs, rfl, hk, h⟩
theorem st_slL {x : D} {xs : List D} {lo hi : Option Int} (hs : LsW G x xs) (h : Q (.lst (dcut xs lo hi)) G) : slD x lo hi G Q := .inl ⟨xs, hs, h⟩
theorem st_slT {xs : List D} {lo hi : Option Int} (h : Q (.tup (dcut xs lo hi)) G) : slD (.tup xs) lo hi G Q := .inr (.inl ⟨xs, rfl, h⟩)
theorem st_slS {x : Str} {lo hi : Option Int} (hl : x.length ≤ sizeLine) (h : Q (.str (cutS x lo hi)) G) : slD (.str x) lo hi G Q := .inr (.inr ⟨x, rfl, hl, h⟩)
-- built-in functions
theorem st_len {x : D} {xs : List D} (hs : Sq G x xs) (h : Q (.int xs.length) G) : kLen [x] G Q := .inl ⟨x, rfl, xs, hs, h⟩
theorem st_lenT {z : Str} (hl : z.length ≤ sizeLine) (h : Q (.int z.length) G) : kLen [.str z] G Q := .inr ⟨_, rfl, z, rfl, hl, h⟩
theorem st_abs {x : Int} (h : Q (.int (x.natAbs : Int)) G) : kAbs [.int x] G Q := ⟨_, rfl, x, rfl, h⟩
theorem st_max2 {x y : Int} (h : Q (.int (max x y)) G) : kMax2 [.int x, .int y] G Q := ⟨_, _, rfl, x, y, rfl, rfl, h⟩
theorem st_min2 {x y : Int} (h : Q (.int (min x y)) G) : kMin2 [.int x, .int y] G Q := ⟨_, _, rfl, x, y, rfl, rfl, h⟩
theorem st_toInt {x : Int} (h : Q (.int x) G) : kInt [.int x] G Q := ⟨_, rfl, .inl ⟨x, rfl, h⟩⟩
theorem st_toIntB {k : Bool} (h : Q (.int (if k then 1 else 0)) G) : kInt [.bl k] G Q := ⟨_, rfl, .inr ⟨k, rfl, h⟩⟩
theorem st_bool {k : Bool} (h : Q (.bl k) G) : kBool [.bl k] G Q := ⟨_, rfl, .inr ⟨k, rfl, h⟩⟩
theorem st_strI {x : Int} (hl : x.natAbs.log2 < 1920) (h : Q (.str (toString x)) G) : kStr [.int x] G Q := ⟨_, rfl, x, rfl, hl, h⟩
theorem st_tuple {x : D} {xs : List D} (hs : Sq G x xs) (h : Q (.tup xs) G) : kTuple [x] G Q := ⟨x, rfl, xs, hs, h⟩
theorem st_list {x : D} {xs : List D} (hs : Sq G x xs) (h : Q (.lst xs) G) : kList [x] G Q := ⟨x, rfl, xs, hs, h⟩
theorem st_listM {x : D} {xs : List D} (hs : Sq G x xs) (h : ∀ p, G p = none → Q (.ref p) (gput G p (.lst xs))) : kListM [x] G Q := ⟨x, rfl, xs, hs, h⟩
theorem st_repr {x : D} {p : PyData} (hp : Py G x p) (hs : Shw p) (h : Q (.str p.shown) G) : kRepr [x] G Q := ⟨x, rfl, p, hp, hs, h⟩
theorem st_sum {x : D} {ns : List Int} (hs : LsW G x (ns.map D.int)) (h : Q (.int ns.sum) G) : kSum [x] G Q := ⟨x, rfl, ns, hs, h⟩
theorem st_any {x : D} {ns : List Bool} (hs : LsW G x (ns.map D.bl)) (h : Q (.bl (ns.any id)) G) : kAny [x] G Q := ⟨x, rfl, ns, hs, h⟩
theorem st_all {x : D} {ns : List Bool} (hs : LsW G x (ns.map D.bl)) (h : Q (.bl (ns.all id)) G) : kAll [x] G Q := ⟨x, rfl, ns, hs, h⟩
-- methods
theorem st_bm {ty rD} (h : ta σ G (fun x G1 => ty x G1 ∧ t σ G1 (fun ds G2 => rD x ds G2 Q) E) E) : dBM ty rD ta t σ G Q E := h
theorem st_bm0 {ty rD} (h : ta σ G (fun x G1 => ty x G1 ∧ rD x [] G1 Q) E) : dBM0 ty rD ta σ G Q E := h
theorem st_append {p : Addr} {xs : List D} (hp : G p = some (.lst xs)) (hl : xs.length < sizeLine) (h : Q .non (gput G p (.lst (xs ++ [d])))) : mAppend (.ref p) [d] G Q := ⟨p, xs, d, rfl, rfl, hp, hl, h⟩
theorem st_pop {p : Addr} {xs : List D} (hp : G p = some (.lst (xs ++ [d]))) (h : Q d (gput G p (.lst xs))) : mPop (.ref p) [] G Q := ⟨p, xs, d, rfl, rfl, hp, h⟩
theorem st_extend {p : Addr} {xs ys : List D} {y : D} (hp : G p = some (.lst xs)) (hy : Ls G y ys) (hl : xs.length + ys.length ≤ sizeLine) (h : Q .non (gput G p (.lst (xs ++ ys)))) : mExtend (.ref p) [y] G Q := ⟨p, xs, y, ys, rfl, rfl, hp, hy, hl, h⟩
-- ifs
theorem st_iteT {A B : Prop} (h : A) : if true = true then A else B := h
theorem st_iteF {A B : Prop} (h : B) : if false = true then A else B := by rw [if_neg Bool.false_ne_true]; exact h
theorem st_ite {p A B : Prop} [Decidable p] (h1 : p → A) (h2 : ¬ p → B) : if decide p = true then A else B := by
  by_cases h : p
  · rw [decide_eq_true h]; exact h1 h
  · rw [decide_eq_false h, if_neg Bool.false_ne_true]; exact h2 h
theorem st_iteN {p A B : Prop} [Decidable p] (h1 : ¬ p → A) (h2 : p → B) : if (!decide p) = true then A else B := by
  by_cases h : p
  · rw [decide_eq_true h]; exact h2 h
  · rw [decide_eq_false h]; exact h1 h
theorem st_iteB {b : Bool} {A B : Prop} (h1 : b = true → A) (h2 : b = false → B) : if b = true then A else B := by
  cases b
  · rw [if_neg Bool.false_ne_true]; exact h2 rfl
  · exact h1 rfl
/-- a test that leaves nothing but its value: both parts of and, or are joined -/
theorem st_join {b k : Bool} {F : Bool → HH → Prop} (h : F (b && k) G) : if b = true then F k G else F false G := by
  cases b
  · rw [if_neg Bool.false_ne_true]; exact h
  · exact h
theorem st_joinO {b k : Bool} {F : Bool → HH → Prop} (h : F (b || k) G) : if b = true then F true G else F k G := by
  cases b
  · rw [if_neg Bool.false_ne_true]; exact h
  · exact h
end
end DL

namespace DL
open PySem PySem.Spec PyProof.Rows L2
open PySem.W (Frag)

/-! ### data that may be shown: bounds -/
mutual
/-- ints below 2 ^ b, texts of right signs, no dicts, depth at most n -/
def fine (b : Nat) : Nat → PyData → Prop
  | _, .none => True
  | _, .bool _ => True
  | _, .int i => i.natAbs < 2 ^ b
  | _, .str x => PyData.strOk x = true
  | n + 1, .list xs => fineAll b n xs
  | n + 1, .tuple xs => fineAll b n xs
  | 0, .list _ => False
  | 0, .tuple _ => False
  | _, .dict _ => False
def fineAll (b : Nat) : Nat → List PyData → Prop
  | _, [] => True
  | n, x :: xs => fine b n x ∧ fineAll b n xs
end
theorem int_len {b : Nat} {i : Int} (h0 : 0 < b) (h : i.natAbs < 2 ^ b) : (PyData.shown (.int i)).length ≤ b + 1 := by
  simp only [PyData.shown]
  show (Str.ofString (toString i)).length ≤ b + 1
  rw [PySem.ofString_length]
  cases i with
  | ofNat n =>
    have := nat_repr_length_le (n := n) (k := b) h0 h
    show (Nat.repr n).length ≤ b + 1
    omega
  | negSucc n =>
    have := nat_repr_length_le (n := n + 1) (k := b) h0 h
    have e1 : "-".length = 1 := rfl
    show ("-" ++ Nat.repr (n + 1)).length ≤ b + 1
    rw [String.length_append]
    omega
mutual
theorem fine_look {b : Nat} (h0 : 0 < b) (hb : b ≤ 1900) : ∀ (n : Nat) (d : PyData), fine b n d → d.showable = true ∧ d.canLay0 = true ∧ d.leavesShort (b + 10) = true ∧ d.depth ≤ n
  | n, .none, _ => by simp [PyData.showable, PyData.canLay0, PyData.leavesShort, PyData.depth]
  | n, .bool _, _ => by simp [PyData.showable, PyData.canLay0, PyData.leavesShort, PyData.depth]
  | n, .int i, h => by
    have h : i.natAbs < 2 ^ b := by cases n <;> exact h
    have h1 := int_len h0 h
    have h2 : i.natAbs.log2 < 1920 := by
      by_cases hz : i.natAbs = 0
      · rw [hz]; decide
      · have := (Nat.log2_lt hz).mpr h
        omega
    simp only [PyData.showable, PyData.canLay0, PyData.leavesShort, PyData.depth]
    exact ⟨decide_eq_true h2, trivial, decide_eq_true (by omega), Nat.zero_le _⟩
  | n, .str x, h => by
    have h : PyData.strOk x = true := by cases n <;> exact h
    simp only [PyData.showable, PyData.canLay0, PyData.leavesShort, PyData.depth]
    refine ⟨trivial, h, ?_, Nat.zero_le _⟩
    rw [List.all_eq_true]
    intro c hc
    unfold PyData.strOk at h
    rw [← Array.all_toList, List.all_eq_true] at h
    have := h c hc
    have : c < 0x110000 := by simpa using this
    exact decide_eq_true (Nat.lt_trans this (by decide))
  | 0, .list _, h => by simp [fine] at h
  | 0, .tuple _, h => by simp [fine] at h
  | n + 1, .list xs, h => by
    simp only [fine] at h
    obtain ⟨h1, h2, h3, h4⟩ := fineAll_look h0 hb n xs h
    simp only [PyData.showable, PyData.canLay0, PyData.leavesShort, PyData.depth]
    exact ⟨h1, h2, h3, by omega⟩
  | n + 1, .tuple xs, h => by
    simp only [fine] at h
    obtain ⟨h1, h2, h3, h4⟩ := fineAll_look h0 hb n xs h
    simp only [PyData.showable, PyData.canLay0, PyData.leavesShort, PyData.depth]
    exact ⟨h1, h2, h3, by omega⟩
  | n, .dict _, h => by cases n <;> simp [fine] at h
theorem fineAll_look {b : Nat} (h0 : 0 < b) (hb : b ≤ 1900) : ∀ (n : Nat) (ds : List PyData), fineAll b n ds → PyData.showableAll ds = true ∧ PyData.canLayAll0 ds = true ∧ PyData.leavesShortAll (b + 10) ds = true ∧ PyData.depthAll ds ≤ n
  | n, [], _ => by simp [PyData.showableAll, PyData.canLayAll0, PyData.leavesShortAll, PyData.depthAll]
  | n, d :: ds, h => by
    simp only [fineAll] at h
    obtain ⟨a1, a2, a3, a4⟩ := fine_look h0 hb n d h.1
    obtain ⟨b1, b2, b3, b4⟩ := fineAll_look h0 hb n ds h.2
    simp only [PyData.showableAll, PyData.canLayAll0, PyData.leavesShortAll, PyData.depthAll, a1, a2, a3, b1, b2, b3, Bool.and_self, true_and]
    omega
end
theorem shaped_of {b n : Nat} {d : PyData} (h0 : 0 < b) (hb : b ≤ 1900) (hn : n ≤ 64) (h : fine b n d) : SeqAt.shaped d = true := by
  obtain ⟨_, h2, _, h4⟩ := fine_look h0 hb n d h
  unfold SeqAt.shaped
  rw [h2]
  exact decide_eq_true (by omega)
theorem shw_of {b n : Nat} {d : PyData} (h0 : 0 < b) (hb : b ≤ 1900) (hn : n ≤ 64) (h : fine b n d) (hz : (b + 12) * d.bulk + b + 10 ≤ 16777216) : Shw d := by
  obtain ⟨h1, h2, h3, h4⟩ := fine_look h0 hb n d h
  refine ⟨h1, shaped_of h0 hb hn h, ?_⟩
  have := PyData.shown_le_bulk (b + 10) (by omega) d h3
  have e : sizeLine = 16777216 := sizeLine_eq
  rw [e]
  have e2 : (b + 10 + 2) * d.bulk = (b + 12) * d.bulk := by rw [show b + 10 + 2 = b + 12 by omega]
  omega

/-! ### lists of scalars as data -/
theorem pys_ints : ∀ ns : List Int, pys (ns.map D.int) = some (ns.map PyData.int)
  | [] => rfl
  | n :: ns => by simp [pys, D.py, pys_ints ns]
theorem pys_strs : ∀ ns : List Str, pys (ns.map D.str) = some (ns.map PyData.str)
  | [] => rfl
  | n :: ns => by simp [pys, D.py, pys_strs ns]
theorem py_lstI (ns : List Int) : (D.lst (ns.map D.int)).py = some (.list (ns.map PyData.int)) := by simp [D.py, pys_ints]
theorem py_tupI (ns : List Int) : (D.tup (ns.map D.int)).py = some (.tuple (ns.map PyData.int)) := by simp [D.py, pys_ints]
theorem canLay_ints : ∀ ns : List Int, PyData.canLayAll0 (ns.map PyData.int) = true
  | [] => rfl
  | n :: ns => by simp [PyData.canLayAll0, PyData.canLay0, canLay_ints ns]
theorem depth_ints : ∀ ns : List Int, PyData.depthAll (ns.map PyData.int) = 0
  | [] => rfl
  | n :: ns => by simp [PyData.depthAll, PyData.depth, depth_ints ns]
theorem shaped_lstI (ns : List Int) : SeqAt.shaped (.list (ns.map PyData.int)) = true := by
  unfold SeqAt.shaped
  simp [PyData.canLay0, PyData.depth, canLay_ints, depth_ints]
theorem shaped_tupI (ns : List Int) : SeqAt.shaped (.tuple (ns.map PyData.int)) = true := by
  unfold SeqAt.shaped
  simp [PyData.canLay0, PyData.depth, canLay_ints, depth_ints]
theorem eqv_lst_nil (ds : List PyData) : PyData.eqv (.list ds) (.list []) = ds.isEmpty := by
  cases ds <;> simp [PyData.eqv, PyData.eqvAll]
theorem eqv_tup_nil (ds : List PyData) : PyData.eqv (.tuple ds) (.tuple []) = ds.isEmpty := by
  cases ds <;> simp [PyData.eqv, PyData.eqvAll]
theorem hu70 {k : Nat} {A : Around} (hr : Room k A) : A.units + 70 < cLine := by have := hr.un; omega
theorem hu64 {k : Nat} {A : Around} (hr : Room k A) : A.units + 64 < cLine := by have := hr.un; omega
/-! ### places -/
theorem atI_of {α : Type} {xs : List α} {k : Int} {n : Nat} {x : α} (e : k = (n : Int)) (h : xs[n]? = some x) : atI xs k = some x := by
  rw [e]; exact atI_nat h
theorem ixN_of {n : Nat} {k : Int} {j : Nat} (e : k = (j : Int)) (h : j < n) : ixN n k = some j := by
  unfold ixN
  rw [if_pos (by omega), if_pos (by omega)]
  congr 1
  omega
end DL

namespace DL
open PySem PySem.Spec PyProof.Rows L2
open PySem.W (Frag)
section
variable {σ σ' : SD} {G : HH} {Q : QD} {E : ED} {wi : TID} {g : TGD} {tb : TSD} {nx bk ct : SD → HH → Prop} {rt : QD} {ex : XD → SD → HH → Prop} {items : List D} {ok : HH → Prop} {tA : TTD}

/-! ### for, by an invariant -/
def ForG (items : List D) (ok : HH → Prop) (g : TGD) (tb : TSD) (nx : SD → HH → Prop) (rt : QD) (ex : XD → SD → HH → Prop) (σ : SD) (G : HH) : Prop := ∃ Iv : List D → SD → HH → Prop, Iv [] σ G ∧ (∀ pre σ G, Iv pre σ G → ok G) ∧
  (∀ pre x post σ G, items = pre ++ x :: post → Iv pre σ G → g x σ G (fun σ2 G2 => tb ⟨Iv (pre ++ [x]), rt, nx, Iv (pre ++ [x]), ex⟩ σ2 G2)) ∧ (∀ σ G, Iv items σ G → nx σ G)
theorem st_for (h : wi σ G (fun items ok G1 => ForG items ok g tb nx rt ex σ G1) (fun x G1 => ex x σ G1)) : dFor wi g tb ⟨nx, rt, bk, ct, ex⟩ σ G := h
/-- over items that are known, told by a list -/
theorem for_map {α : Type} {xs : List α} {c : α → D} (Iv : List α → SD → HH → Prop) (hok : ∀ pre σ G, Iv pre σ G → ok G) (h0 : Iv [] σ G)
    (hs : ∀ pre a post σ G, xs = pre ++ a :: post → Iv pre σ G → g (c a) σ G (fun σ2 G2 => tb ⟨Iv (pre ++ [a]), rt, nx, Iv (pre ++ [a]), ex⟩ σ2 G2)) (he : ∀ σ G, Iv xs σ G → nx σ G) : ForG (xs.map c) ok g tb nx rt ex σ G := by
  refine ⟨fun pre σ G => Iv (xs.take pre.length) σ G, by simpa using h0, fun pre σ G h => hok _ σ G h, fun pre x post σ G e iv => ?_, fun σ G iv => he σ G (by simpa using iv)⟩
  have hl : pre.length < xs.length := by
    have := congrArg List.length e
    simp at this
    omega
  have hx : xs[pre.length]? = some xs[pre.length] := List.getElem?_eq_getElem hl
  have e2 : x = c xs[pre.length] := by
    have : (xs.map c)[pre.length]? = some x := by rw [e]; simp
    rw [List.getElem?_map, hx] at this
    exact (Option.some.inj this).symm
  have hsp := split_at hx
  have tk := take_snoc hx
  subst e2
  have := hs _ _ _ σ G hsp iv
  have e3 : xs.take (pre ++ [c xs[pre.length]]).length = xs.take pre.length ++ [xs[pre.length]] := by
    rw [← tk]; simp
  have e4 : (fun σ G => Iv (xs.take (pre ++ [c xs[pre.length]]).length) σ G) = Iv (xs.take pre.length ++ [xs[pre.length]]) := by
    rw [e3]
  dsimp only
  have e5 : (fun σ G => Iv (xs.take (pre ++ [c xs[pre.length]]).length) σ G) = Iv (xs.take (pre ++ [c xs[pre.length]]).length) := rfl
  rw [e5] at e4
  rw [e4]
  exact this
/-- over a range -/
theorem for_rng {lo : Int} {n : Nat} (Iv : Nat → SD → HH → Prop) (h0 : Iv 0 σ G)
    (hs : ∀ (i : Nat) σ G, i < n → Iv i σ G → g (.int (lo + (i : Int))) σ G (fun σ2 G2 => tb ⟨Iv (i + 1), rt, nx, Iv (i + 1), ex⟩ σ2 G2)) (he : ∀ σ G, Iv n σ G → nx σ G) : ForG (rgItems lo n) okT g tb nx rt ex σ G := by
  refine for_map (xs := List.range n) (c := fun i : Nat => D.int (lo + (i : Int))) (fun pre σ G => Iv pre.length σ G) (fun _ _ _ _ => trivial) h0 (fun pre a post σ G e iv => ?_) (fun σ G iv => he σ G (by simpa using iv))
  have hl : pre.length < n := by
    have := congrArg List.length e
    simp at this
    omega
  have ea : a = pre.length := by
    have h1 : (List.range n)[pre.length]? = some a := by rw [e]; simp
    rw [List.getElem?_range hl] at h1
    exact (Option.some.inj h1).symm
  subst ea
  simpa using hs pre.length σ G hl iv
/-! ### while, by an invariant and a measure -/
theorem st_while (Iv : SD → HH → Prop) (μ : SD → HH → Nat) (h0 : Iv σ G)
    (hs : ∀ σ G, Iv σ G → tA σ G (fun b G1 => if b = true then tb ⟨fun σ' G' => Iv σ' G' ∧ μ σ' G' < μ σ G, rt, nx, fun σ' G' => Iv σ' G' ∧ μ σ' G' < μ σ G, ex⟩ σ G1 else nx σ G1) (fun x G1 => ex x σ G1)) : dWhile tA tb ⟨nx, rt, bk, ct, ex⟩ σ G := ⟨Iv, μ, h0, hs⟩
/-! ### comprehensions -/
def LcG (fr : Bool) (items : List D) (ok : HH → Prop) (g : Tgt) (tt : TTD) (te : TED) (vs : List Nat) (σ : SD) (G1 : HH) (Q : QD) : Prop := ∀ p, G1 p = none → ∃ Iv : List D → HH → Prop, Iv [] (gput G1 p (.lst [])) ∧ (∀ pre G, Iv pre G → ok G) ∧
  (∀ pre x post G, items = pre ++ x :: post → Iv pre G → ∃ σ2, g.put x (wipeD σ vs) = some σ2 ∧ tt σ2 G (fun b G3 => if b = true then te σ2 G3 (fun y G4 => ∃ acc, G4 p = some (.lst acc) ∧ acc.length < sizeLine ∧ Iv (pre ++ [x]) (gput G4 p (.lst (acc ++ [y])))) (fun _ _ => False) else Iv (pre ++ [x]) G3) (fun _ _ => False)) ∧
  (∀ G, Iv items G → ∃ acc, G p = some (.lst acc) ∧ (if fr = true then Q (.lst acc) (gdel G p) else Q (.ref p) G))
theorem st_lc {fr : Bool} {g : Tgt} {tt : TTD} {te : TED} {vs : List Nat} (h : wi σ G (fun items ok G1 => LcG fr items ok g tt te vs σ G1 Q) E) : dLc fr wi g tt te vs σ G Q E := h
theorem gdel_gput {G : HH} {p : Addr} {o : HOD} (h : G p = none) : gdel (gput G p o) p = G := by
  funext b
  by_cases hb : b = p
  · subst hb; rw [gdel_same, h]
  · rw [gdel_ne hb, gput_ne hb]
/-- what okL asks beside a new object -/
theorem ok_put {x : D} {xs : List D} {p : Addr} {o : HOD} (hp : G p = none) (h : LsW G x xs) : LsW (gput G p o) x xs := by
  cases h with
  | lst => exact .lst _
  | wls => exact .wls _
  | ref e => exact .ref (by rw [gput_ne (fun z => by rw [z, hp] at e; cases e)]; exact e)
/-- each element by itself, nothing changes: items told by xs, kept where k says, f what comes -/
theorem lc_pure {α : Type} {xs : List α} {c : α → D} {g : Tgt} {tt : TTD} {te : TED} {vs : List Nat} (k : α → Bool) (f : α → D) (hok : ∀ p acc, G p = none → ok (gput G p (.lst acc))) (hl : xs.length ≤ sizeLine)
    (hs : ∀ a, a ∈ xs → ∀ p acc, G p = none → ∃ σ2, g.put (c a) (wipeD σ vs) = some σ2 ∧ ∀ QT : Bool → HH → Prop, QT (k a) (gput G p (.lst acc)) → tt σ2 (gput G p (.lst acc)) QT (fun _ _ => False))
    (he : ∀ a, a ∈ xs → k a = true → ∀ p acc, G p = none → ∀ σ2, g.put (c a) (wipeD σ vs) = some σ2 → ∀ Q' : QD, Q' (f a) (gput G p (.lst acc)) → te σ2 (gput G p (.lst acc)) Q' (fun _ _ => False))
    (hq : Q (.lst ((xs.filter k).map f)) G) : LcG true (xs.map c) ok g tt te vs σ G Q := by
  intro p hp
  refine ⟨fun pre G' => G' = gput G p (.lst (((xs.take pre.length).filter k).map f)), by simp, fun pre G' h => by rw [h]; exact hok p _ hp, fun pre x post G' e iv => ?_, fun G' iv => ?_⟩
  · subst iv
    have hlt : pre.length < xs.length := by
      have := congrArg List.length e
      simp at this
      omega
    have hx : xs[pre.length]? = some xs[pre.length] := List.getElem?_eq_getElem hlt
    have e2 : x = c xs[pre.length] := by
      have : (xs.map c)[pre.length]? = some x := by rw [e]; simp
      rw [List.getElem?_map, hx] at this
      exact (Option.some.inj this).symm
    subst e2
    have hm : xs[pre.length] ∈ xs := List.getElem_mem hlt
    obtain ⟨σ2, h1, h2⟩ := hs _ hm p (((xs.take pre.length).filter k).map f) hp
    refine ⟨σ2, h1, h2 _ ?_⟩
    have tk : xs.take (pre ++ [c xs[pre.length]]).length = xs.take pre.length ++ [xs[pre.length]] := by
      have := take_snoc hx
      simpa using this
    cases ek : k xs[pre.length] with
    | true =>
      rw [if_pos rfl]
      refine he _ hm ek p _ hp σ2 h1 _ ⟨_, gput_same, ?_, ?_⟩
      · have a1 := List.length_filter_le k (xs.take pre.length)
        rw [List.length_map]
        rw [List.length_take] at a1
        omega
      · dsimp only
        rw [gput_gput, tk, List.filter_append, List.map_append]
        simp [ek]
    | false =>
      rw [if_neg Bool.false_ne_true]
      dsimp only
      rw [tk, List.filter_append, List.map_append]
      simp [ek]
  · subst iv
    refine ⟨_, gput_same, ?_⟩
    rw [if_pos rfl, gdel_gput hp]
    simpa using hq
/-- .. without a test -/
theorem lc_map {α : Type} {xs : List α} {c : α → D} {g : Tgt} {te : TED} {vs : List Nat} (f : α → D) (hok : ∀ p acc, G p = none → ok (gput G p (.lst acc))) (hl : xs.length ≤ sizeLine)
    (he : ∀ a, a ∈ xs → ∀ p acc, G p = none → ∃ σ2, g.put (c a) (wipeD σ vs) = some σ2 ∧ ∀ Q' : QD, Q' (f a) (gput G p (.lst acc)) → te σ2 (gput G p (.lst acc)) Q' (fun _ _ => False))
    (hq : Q (.lst (xs.map f)) G) : LcG true (xs.map c) ok g dYes te vs σ G Q := by
  refine lc_pure (fun _ => true) f hok hl (fun a ha p acc hp => ?_) (fun a ha _ p acc hp σ2 e2 Q' q => ?_) (by rw [List.filter_eq_self.mpr (by simp)]; exact hq)
  · obtain ⟨σ2, h1, _⟩ := he a ha p acc hp
    exact ⟨σ2, h1, fun QT q => q⟩
  · obtain ⟨σ3, h1, h2⟩ := he a ha p acc hp
    rw [e2] at h1
    cases h1
    exact h2 Q' q
/-- the second part of an and: what it comes to where it is asked -/
theorem st_andP {tB : TTD} {QT : Bool → HH → Prop} {c k : Bool} (h1 : c = true → ∀ QT' : Bool → HH → Prop, QT' k G → tB σ G QT' E) (h : QT (c && k) G) : if c = true then tB σ G QT E else QT false G := by
  cases c
  · rw [if_neg Bool.false_ne_true]; exact h
  · exact h1 rfl QT h
theorem st_orP {tB : TTD} {QT : Bool → HH → Prop} {c k : Bool} (h1 : c = false → ∀ QT' : Bool → HH → Prop, QT' k G → tB σ G QT' E) (h : QT (c || k) G) : if c = true then QT true G else tB σ G QT E := by
  cases c
  · rw [if_neg Bool.false_ne_true]; exact h1 rfl QT h
  · exact h
end
end DL

namespace DL
open PySem PySem.Spec PyProof.Rows L2
open PySem.W (Frag)
variable {X : Cx} {W : WX} {e f i o a b c value : Expr} {es : List Expr} {ta tb tc td ty tx tv to : TED} {t u : TAD} {tA tB' : TTD} {pos pos' apos cpos : Pos}

/-! ### dicts: keys are ints and texts, or tuples of them -/
section
variable {κ : Type} [DecidableEq κ]
def kget (kvs : List (κ × D)) (k : κ) : Option D := (kvs.find? fun kv => decide (kv.1 = k)).map (·.2)
def kput (kvs : List (κ × D)) (k : κ) (v : D) : List (κ × D) := if (kvs.any fun kv => decide (kv.1 = k)) = true then kvs.map (fun kv => if kv.1 = k then (kv.1, v) else kv) else kvs ++ [(k, v)]
/-- the same keys, values alike -/
def KRp (K : Frag) (H : Hp) (G : HH) (kvs : List (κ × D)) (xs : List (κ × V)) : Prop := kvs.map (·.1) = xs.map (·.1) ∧ Rps K H G (kvs.map (·.2)) (xs.map (·.2))
theorem KRp.nil {K H G} : KRp K H G ([] : List (κ × D)) [] := ⟨rfl, .nil⟩
theorem KRp.get {K H G} {k : κ} : ∀ {kvs : List (κ × D)} {xs : List (κ × V)}, KRp K H G kvs xs → (kget kvs k = none ∧ valV xs k = none) ∨ ∃ d v, kget kvs k = some d ∧ valV xs k = some v ∧ Rp K H G d v
  | [], [], _ => .inl ⟨rfl, rfl⟩
  | [], _ :: _, ⟨e, _⟩ => by simp at e
  | _ :: _, [], ⟨e, _⟩ => by simp at e
  | (k1, d) :: kvs, (k2, v) :: xs, ⟨e, r⟩ => by
    simp only [List.map_cons, List.cons.injEq] at e
    obtain ⟨e1, e2⟩ := e
    subst e1
    cases r with
    | cons r1 r2 =>
      by_cases hk : k1 = k
      · exact .inr ⟨d, v, by simp [kget, hk], by simp [valV, hk], r1⟩
      · have ih := KRp.get (k := k) (kvs := kvs) (xs := xs) ⟨e2, r2⟩
        have a1 : kget ((k1, d) :: kvs) k = kget kvs k := by simp [kget, List.find?_cons, hk]
        have a2 : valV ((k1, v) :: xs) k = valV xs k := by simp [valV, List.find?_cons, hk]
        rw [a1, a2]
        exact ih
theorem KRp.any {K H G} {k : κ} {kvs : List (κ × D)} {xs : List (κ × V)} (h : KRp K H G kvs xs) : (kvs.any fun kv => decide (kv.1 = k)) = xs.any fun kv => decide (kv.1 = k) := by
  have e := h.1
  have a1 : (kvs.any fun kv => decide (kv.1 = k)) = (kvs.map (·.1)).any fun z => decide (z = k) := by rw [List.any_map]; rfl
  have a2 : (xs.any fun kv => decide (kv.1 = k)) = (xs.map (·.1)).any fun z => decide (z = k) := by rw [List.any_map]; rfl
  rw [a1, a2, e]
theorem KRp.repl {K H G} {k : κ} {d : D} {v : V} (r : Rp K H G d v) : ∀ {kvs : List (κ × D)} {xs : List (κ × V)}, KRp K H G kvs xs → KRp K H G (kvs.map (fun kv => if kv.1 = k then (kv.1, d) else kv)) (xs.map (fun kv => if kv.1 = k then (kv.1, v) else kv))
  | [], [], _ => .nil
  | [], _ :: _, ⟨e, _⟩ => by simp at e
  | _ :: _, [], ⟨e, _⟩ => by simp at e
  | (k1, d1) :: kvs, (k2, v1) :: xs, ⟨e, q⟩ => by
    simp only [List.map_cons, List.cons.injEq] at e
    obtain ⟨e1, e2⟩ := e
    subst e1
    cases q with
    | cons r1 r2 =>
      obtain ⟨b1, b2⟩ := KRp.repl (k := k) r (kvs := kvs) (xs := xs) ⟨e2, r2⟩
      by_cases hk : k1 = k
      · simp only [List.map_cons, hk, if_true]
        exact ⟨by simp [b1], .cons r b2⟩
      · simp only [List.map_cons, hk, if_false]
        exact ⟨by simp [b1], .cons r1 b2⟩
theorem KRp.put {K H G} {k : κ} {d : D} {v : V} {kvs : List (κ × D)} {xs : List (κ × V)} (h : KRp K H G kvs xs) (r : Rp K H G d v) : KRp K H G (kput kvs k d) (putK xs k v) := by
  unfold kput putK
  rw [h.any]
  split
  · exact h.repl r
  · exact ⟨by simp [h.1], by rw [List.map_append, List.map_append]; exact h.2.append (.cons r .nil)⟩
theorem KRp.mono {K H G H' G'} {kvs : List (κ × D)} {xs : List (κ × V)} (s : Stp H G H' G') (h : KRp K H G kvs xs) : KRp K H' G' kvs xs := ⟨h.1, h.2.mono s⟩
theorem KRp.length {K H G} {kvs : List (κ × D)} {xs : List (κ × V)} (h : KRp K H G kvs xs) : kvs.length = xs.length := by
  have := congrArg List.length h.1
  simpa using this
theorem kget_cons {p : κ × D} {r : List (κ × D)} {j : κ} : kget (p :: r) j = if p.1 = j then some p.2 else kget r j := by
  by_cases h : p.1 = j <;> simp [kget, List.find?_cons, h]
theorem kget_any (k : κ) : ∀ kvs : List (κ × D), (kvs.any fun kv => decide (kv.1 = k)) = (kget kvs k).isSome
  | [] => rfl
  | p :: r => by
    rw [kget_cons, List.any_cons, kget_any k r]
    by_cases h : p.1 = k <;> simp [h]
theorem kget_map (k j : κ) (y : D) : ∀ kvs : List (κ × D), kget (kvs.map fun kv => if kv.1 = k then (kv.1, y) else kv) j = (kget kvs j).map fun x => if j = k then y else x
  | [] => rfl
  | p :: r => by
    have e : (if p.1 = k then (p.1, y) else p).1 = p.1 := by split <;> rfl
    rw [List.map_cons, kget_cons, kget_cons, kget_map k j y r, e]
    by_cases h : p.1 = j
    · subst h
      by_cases hk : p.1 = k <;> simp [hk]
    · simp [h]
theorem kget_snoc (k j : κ) (y : D) : ∀ kvs : List (κ × D), kget kvs k = none → kget (kvs ++ [(k, y)]) j = if j = k then some y else kget kvs j
  | [], _ => by
    rw [List.nil_append, kget_cons]
    by_cases h : k = j
    · subst h; simp
    · have h' : ¬ j = k := fun z => h z.symm
      simp [h, h']
  | p :: r, e => by
    rw [kget_cons] at e
    by_cases hp : p.1 = k
    · rw [if_pos hp] at e; cases e
    · rw [if_neg hp] at e
      rw [List.cons_append, kget_cons, kget_snoc k j y r e, kget_cons]
      by_cases h : p.1 = j
      · subst h
        simp [hp]
      · simp [h]
theorem kget_put (kvs : List (κ × D)) (k j : κ) (y : D) : kget (kput kvs k y) j = if j = k then some y else kget kvs j := by
  unfold kput
  rw [kget_any]
  cases e : kget kvs k with
  | none => simp only [Option.isSome_none, Bool.false_eq_true, if_false]; exact kget_snoc k j y kvs e
  | some v =>
    simp only [Option.isSome_some, if_true]
    rw [kget_map]
    by_cases h : j = k
    · subst h; rw [e]; simp
    · simp [h]
theorem length_kput (kvs : List (κ × D)) (k : κ) (v : D) : (kput kvs k v).length ≤ kvs.length + 1 := by
  unfold kput
  split <;> simp
theorem keys_kput (kvs : List (κ × D)) (k : κ) (v : D) : (kput kvs k v).map (·.1) = if (kget kvs k).isSome = true then kvs.map (·.1) else kvs.map (·.1) ++ [k] := by
  unfold kput
  rw [kget_any]
  split
  · rw [List.map_map]
    refine List.map_congr_left fun a _ => ?_
    dsimp only [Function.comp]
    split <;> rfl
  · simp
end
/-- the key that a scalar is -/
def dkey : D → Option Key
  | .int i => some (.inl i)
  | .str x => some (.inr x)
  | _ => none
theorem dkey_of {K H G d v k} (p : Rp K H G d v) (h : dkey d = some k) : v = kV k := by
  cases p <;> simp [dkey] at h <;> subst h <;> rfl
/-- what a dict at x says of the key y -/
def DAt (G : HH) (x y : D) (r : Option D) : Prop := ∃ p kvs k, x = .ref p ∧ G p = some (.dK kvs) ∧ dkey y = some k ∧ r = kget kvs k
theorem DAt.of {K H G x y r vx vy} (h : DAt G x y r) (hR : RelH K H G) (px : Rp K H G x vx) (py : Rp K H G y vy) : ∃ a o, vx = .ref a ∧ DGet H a vy o ∧ ((r = none ∧ o = none) ∨ ∃ d v, r = some d ∧ o = some v ∧ Rp K H G d v) := by
  obtain ⟨p, kvs, k, e1, e2, e3, e4⟩ := h
  subst e1; cases px
  obtain ⟨xs, h1, h2⟩ := hR _ _ e2
  rw [dkey_of py e3]
  exact ⟨p, _, rfl, DGet.k h1, by rw [e4]; exact KRp.get (k := k) h2⟩
def dDGet (td ty : TED) : TED := fun σ G Q E => td σ G (fun x G1 => ty σ G1 (fun y G2 => ∃ v, DAt G2 x y (some v) ∧ Q v G2) E) E
theorem de_dget (hu : X.A.units + 1 < cLine) (ho : DE X W o td) (hi : DE X W i ty) (hs : NoSl i := by exact fun _ _ => rfl) : DE X W (.Subscript o i pos) (dDGet td ty) :=
  PE.imp (pe_dget hu ho hi hs) fun σ H Q ⟨σD, G, QD, E, hR, hS, q, hq, hE⟩ => by
    refine ⟨σD, G, _, E, hR, hS, q, fun v1 H1 d1 G1 s1 r1 p1 q1 => ?_, hE⟩
    refine ⟨σD, G1, _, E, r1, hS.mono s1, q1, fun v2 H2 d2 G2 s2 r2 p2 ⟨v, hd, q2⟩ => ?_, hE.mono s1⟩
    obtain ⟨a, o, e1, g, z⟩ := hd.of r2 (p1.mono s2) p2
    rcases z with ⟨z, _⟩ | ⟨d, w, e2, e3, pw⟩
    · cases z
    · cases e2; subst e3
      exact ⟨a, w, e1, g, hq _ _ _ _ (s1.trans s2) r2 pw q2⟩
def dDIn (neg : Bool) (ty td : TED) : TED := fun σ G Q E => ty σ G (fun y G1 => td σ G1 (fun x G2 => ∃ r, DAt G2 x y r ∧ Q (.bl (if neg then !r.isSome else r.isSome)) G2) E) E
theorem dAt_some {K H G r} {o : Option V} (z : (r = none ∧ o = none) ∨ ∃ (d : D) (v : V), r = some d ∧ o = some v ∧ Rp K H G d v) : o.isSome = r.isSome := by
  rcases z with ⟨rfl, rfl⟩ | ⟨d, v, rfl, rfl, _⟩ <;> rfl
theorem pc_din' (hu : X.A.units + 1 < cLine) (hi : DE X W i ty) (ho : DE X W o td) : PC X .In i o (lft X.K W (dDIn false ty td)) := by
  have h := pc_din hu hi ho
  refine ⟨fun pins s σ H Q I ⟨σD, G, QD, E, hR, hS, q, hq, hE⟩ => h.run pins s σ H Q I ?_⟩
  refine ⟨σD, G, _, E, hR, hS, q, fun v1 H1 d1 G1 s1 r1 p1 q1 => ?_, hE⟩
  refine ⟨σD, G1, _, E, r1, hS.mono s1, q1, fun v2 H2 d2 G2 s2 r2 p2 ⟨r, hd, q2⟩ => ?_, hE.mono s1⟩
  obtain ⟨a, o, e1, g, z⟩ := hd.of r2 p2 (p1.mono s2)
  refine ⟨a, o, e1, g, ?_⟩
  rw [dAt_some z]
  exact hq _ _ _ _ (s1.trans s2) r2 (.bl _) q2
theorem pc_dnotin' (hu : X.A.units + 1 < cLine) (hi : DE X W i ty) (ho : DE X W o td) : PC X .NotIn i o (lft X.K W (dDIn true ty td)) := by
  have h := pc_dnotin hu hi ho
  refine ⟨fun pins s σ H Q I ⟨σD, G, QD, E, hR, hS, q, hq, hE⟩ => h.run pins s σ H Q I ?_⟩
  refine ⟨σD, G, _, E, hR, hS, q, fun v1 H1 d1 G1 s1 r1 p1 q1 => ?_, hE⟩
  refine ⟨σD, G1, _, E, r1, hS.mono s1, q1, fun v2 H2 d2 G2 s2 r2 p2 ⟨r, hd, q2⟩ => ?_, hE.mono s1⟩
  obtain ⟨a, o, e1, g, z⟩ := hd.of r2 p2 (p1.mono s2)
  refine ⟨a, o, e1, g, ?_⟩
  rw [dAt_some z]
  exact hq _ _ _ _ (s1.trans s2) r2 (.bl _) q2
theorem de_din (hu : X.A.units + 1 < cLine) (hi : DE X W i ty) (ho : DE X W o td) (h1 : behindInMarks .In o = false := by rfl) : DE X W (.Compare i [.In] [o] pos) (dDIn false ty td) := pe_cmp (pc_din' hu hi ho) h1
theorem de_dnotin (hu : X.A.units + 1 < cLine) (hi : DE X W i ty) (ho : DE X W o td) (h1 : behindInMarks .NotIn o = false := by rfl) : DE X W (.Compare i [.NotIn] [o] pos) (dDIn true ty td) := pe_cmp (pc_dnotin' hu hi ho) h1
theorem dt_din (hu : X.A.units + 1 < cLine) (hi : DE X W i ty) (ho : DE X W o td) (h1 : behindInMarks .In o = false := by rfl) : DT X W (.Compare i [.In] [o] pos) (dTest (dDIn false ty td)) := PT.imp (pt_cmp (pc_din' hu hi ho) h1) (lft_test fun σ H Q h => h)
theorem dt_dnotin (hu : X.A.units + 1 < cLine) (hi : DE X W i ty) (ho : DE X W o td) (h1 : behindInMarks .NotIn o = false := by rfl) : DT X W (.Compare i [.NotIn] [o] pos) (dTest (dDIn true ty td)) := PT.imp (pt_cmp (pc_dnotin' hu hi ho) h1) (lft_test fun σ H Q h => h)
/-- d.get(k), d.get(k, x) -/
def IsDD (G : HH) (x : D) : Prop := ∃ p kvs, x = .ref p ∧ G p = some (.dK kvs)
theorem IsDD.of {K H G x v} (h : IsDD G x) (hR : RelH K H G) (px : Rp K H G x v) : ∃ a, v = .ref a ∧ IsD H a := by
  obtain ⟨p, kvs, e1, e2⟩ := h
  subst e1; cases px
  obtain ⟨xs, h1, _⟩ := hR _ _ e2
  exact ⟨p, rfl, .inl ⟨xs, .inl h1⟩⟩
def dDGet1 (td ty : TED) : TED := fun σ G Q E => td σ G (fun x G1 => IsDD G1 x ∧ ty σ G1 (fun y G2 => ∃ r, DAt G2 x y r ∧ Q (r.getD .non) G2) E) E
def dDGet2 (td ty tx : TED) : TED := fun σ G Q E => td σ G (fun x G1 => IsDD G1 x ∧ ty σ G1 (fun y G2 => tx σ G2 (fun z G3 => ∃ r, DAt G3 x y r ∧ Q (r.getD z) G3) E) E) E
theorem dAt_getD {K H G r w z} {o : Option V} (h : (r = none ∧ o = none) ∨ ∃ (d : D) (v : V), r = some d ∧ o = some v ∧ Rp K H G d v) (pz : Rp K H G z w) : Rp K H G (r.getD z) (o.getD w) := by
  rcases h with ⟨rfl, rfl⟩ | ⟨d, v, rfl, rfl, p⟩
  · exact pz
  · exact p
theorem de_dget1 (hu : X.A.units + 1 < cLine) (ho : DE X W o td) (he : DE X W e ty) (m : M1 X o "get" apos e cpos) : DE X W (.Call (.Attribute o "get" apos) [e] [] cpos) (dDGet1 td ty) :=
  PE.imp (pe_dget1 hu ho he m) fun σ H Q ⟨σD, G, QD, E, hR, hS, q, hq, hE⟩ => by
    refine ⟨σD, G, _, E, hR, hS, q, fun v1 H1 d1 G1 s1 r1 p1 ⟨hi, q1⟩ => ?_, hE⟩
    obtain ⟨a, e1, hd⟩ := hi.of r1 p1
    refine ⟨a, e1, hd, σD, G1, _, E, r1, hS.mono s1, q1, fun v2 H2 d2 G2 s2 r2 p2 ⟨r, hd, q2⟩ => ?_, hE.mono s1⟩
    obtain ⟨a', o, e2, g, z⟩ := hd.of r2 (p1.mono s2) p2
    have : a' = a := by rw [e1] at e2; cases e2; rfl
    subst this
    exact ⟨o, g, hq _ _ _ _ (s1.trans s2) r2 (dAt_getD z .non) q2⟩
theorem de_dget2 (hu : X.A.units + 1 < cLine) (ho : DE X W o td) (he : DE X W e ty) (hf : DE X W f tx) (m : M2 X o "get" apos e f cpos) : DE X W (.Call (.Attribute o "get" apos) [e, f] [] cpos) (dDGet2 td ty tx) :=
  PE.imp (pe_dget2 hu ho he hf m) fun σ H Q ⟨σD, G, QD, E, hR, hS, q, hq, hE⟩ => by
    refine ⟨σD, G, _, E, hR, hS, q, fun v1 H1 d1 G1 s1 r1 p1 ⟨hi, q1⟩ => ?_, hE⟩
    obtain ⟨a, e1, hd⟩ := hi.of r1 p1
    refine ⟨a, e1, hd, σD, G1, _, E, r1, hS.mono s1, q1, fun v2 H2 d2 G2 s2 r2 p2 q2 => ?_, hE.mono s1⟩
    refine ⟨σD, G2, _, E, r2, hS.mono (s1.trans s2), q2, fun v3 H3 d3 G3 s3 r3 p3 ⟨r, hd, q3⟩ => ?_, hE.mono (s1.trans s2)⟩
    obtain ⟨a', o, e2, g, z⟩ := hd.of r3 (p1.mono (s2.trans s3)) (p2.mono s3)
    have : a' = a := by rw [e1] at e2; cases e2; rfl
    subst this
    exact ⟨o, g, hq _ _ _ _ ((s1.trans s2).trans s3) r3 (dAt_getD z p3) q3⟩
/-- {} -/
def dDNew : TED := fun _ G Q _ => ∀ p, G p = none → Q (.ref p) (gput G p (.dK []))
theorem de_dnew : DE X W (.Dict [] [] pos) dDNew := PE.imp pe_dnewK fun σ H Q ⟨σD, G, QD, E, hR, hS, q, hq, hE⟩ => fun p hp =>
  hq _ _ _ _ (Stp.newM (od := .dK []) hp) (hR.newM (od := .dK []) hp ⟨[], upd_same, rfl, .nil⟩) (.ref p) (q p (hR.free hp))
/-- d[k] = v -/
def dDPut (td ty tv : TED) : TSD := fun D σ G => tv σ G (fun v G1 => td σ G1 (fun x G2 => ty σ G2 (fun y G3 => ∃ p kvs k, x = .ref p ∧ G3 p = some (.dK kvs) ∧ dkey y = some k ∧ kvs.length < sizeLine ∧ D.nx σ (gput G3 p (.dK (kput kvs k v)))) (fun x G' => D.ex x σ G')) (fun x G' => D.ex x σ G')) (fun x G' => D.ex x σ G')
theorem ds_dput (hu : X.A.units + 1 < cLine) (ho : DE X W o td) (hi : DE X W i ty) (hv : DE X W value tv) (hs : swapsWith value (some (.Subscript o i pos')) pos.line X.env = pure false := by rfl) : DS X W (.Assign [.Subscript o i pos'] value pos) (dDPut td ty tv) :=
  PS.imp (ps_dput hu ho hi hv hs) fun D σ H ⟨σD, G, DD, hR, hS, q, he⟩ => by
    refine ⟨σD, G, _, _, hR, hS, q, fun v1 H1 d1 G1 s1 r1 p1 q1 => ?_, he.ex.at hS⟩
    refine ⟨σD, G1, _, _, r1, hS.mono s1, q1, fun v2 H2 d2 G2 s2 r2 p2 q2 => ?_, (he.ex.at hS).mono s1⟩
    refine ⟨σD, G2, _, _, r2, hS.mono (s1.trans s2), q2, fun v3 H3 d3 G3 s3 r3 p3 q3 => ?_, (he.ex.at hS).mono (s1.trans s2)⟩
    obtain ⟨p, kvs, k, e1, e2, e3, l, z⟩ := q3
    have p2' := p2.mono s3
    subst e1; cases p2'
    obtain ⟨xs, h1, h2⟩ := r3 _ _ e2
    have h2 : KRp X.K H3 G3 kvs xs := h2
    have s4 := Stp.put (H := H3) (o := .dK (putK xs k v1)) (od := .dK (kput kvs k d1)) e2
    refine ⟨p, _, rfl, ?_, he.nx _ _ _ _ (((s1.trans s2).trans s3).trans s4) (r3.put e2 ⟨_, upd_same, ?_⟩) (hS.mono (((s1.trans s2).trans s3).trans s4)) z⟩
    · rw [dkey_of p3 e3]
      exact DPut.k h1 (by rw [← h2.length]; exact l)
    · exact (h2.mono s4).put (p1.mono ((s2.trans s3).trans s4))
/-- a, b, c = x, y, z -/
def dPar3 (i j l : Nat) (t : TAD) : TSD := fun D σ G => t σ G (fun ds G1 => ∃ d e f, ds = [d, e, f] ∧ D.nx (((σ.set i (some d)).set j (some e)).set l (some f)) G1) (fun x G1 => D.ex x σ G1)
theorem rps3 {K H G d e f xs} (h : Rps K H G [d, e, f] xs) : ∃ v w u, xs = [v, w, u] ∧ Rp K H G d v ∧ Rp K H G e w ∧ Rp K H G f u := by
  cases h with | cons a r => obtain ⟨w, u, rfl, b, c⟩ := rps2 r; exact ⟨_, w, u, rfl, a, b, c⟩
theorem ds_par3 {i j l : Nat} {x y z : Str} {px py pz pt : Pos} {kt k2 pt2} (hc : X.calm = true) (hN : X.N.Nodup) (hi : X.N[i]? = some x) (hj : X.N[j]? = some y) (hl : X.N[l]? = some z) (hij : i ≠ j) (hil : i ≠ l) (hjl : j ≠ l)
    (hx : X.env.scope.names.lookup x = some .local) (hy : X.env.scope.names.lookup y = some .local) (hz : X.env.scope.names.lookup z = some .local) (ha : DA X W [a, b, c] t)
    (hw : swappedStores [.Tuple [.Name x px, .Name y py, .Name z pz] kt pt] (.Tuple [a, b, c] k2 pt2) X.env = pure (some [x, y, z]))
    (hs : swapsWithSole [.Tuple [.Name x px, .Name y py, .Name z pz] kt pt] (.Tuple [a, b, c] k2 pt2) pos.line X.env = pure false := by rfl) :
    DS X W (.Assign [.Tuple [.Name x px, .Name y py, .Name z pz] kt pt] (.Tuple [a, b, c] k2 pt2) pos) (dPar3 i j l t) := PS.imp (ps_par3 hc hN hi hj hl hij hil hjl hx hy hz ha hw hs) fun D σ H ⟨σD, G, DD, hR, hS, q, he⟩ =>
  ⟨σD, G, _, _, hR, hS, q, fun vs H1 ds G1 s r p ⟨d, e, f, e1, z⟩ => by
    subst e1
    obtain ⟨v, w, u, rfl, p1, p2, p3⟩ := rps3 p
    exact ⟨v, w, u, rfl, he.nx _ _ _ _ s r ((((hS.mono s).set i p1).set j p2).set l p3) z⟩, he.ex.at hS⟩
/-- xs + ys, a list that may change -/
def aLstM : D → D → HH → QD → Prop := fun x y G Q => ∃ xs ys, Ls G x xs ∧ Ls G y ys ∧ xs.length + ys.length ≤ sizeLine ∧ ∀ p, G p = none → Q (.ref p) (gput G p (.lst (xs ++ ys)))
theorem oAddLstM : OpD X (binaryOp .Add) aLstM := ⟨_, op_cat, fun x y H Q dx dy G QD hR px py ⟨xs, ys, e1, e2, l, q⟩ hq => by
  obtain ⟨a, vs, rfl, ha, ra⟩ := e1.of hR px
  obtain ⟨b, us, rfl, hb, rb⟩ := e2.of hR py
  exact ⟨_, _, _, _, rfl, rfl, ha, hb, by rw [← ra.length, ← rb.length]; exact l, fun p hp => hq _ _ _ _ (Stp.newM (od := .lst (xs ++ ys)) hp) (hR.newM (od := .lst (xs ++ ys)) hp ⟨vs ++ us, upd_same, (ra.append rb).mono (Stp.newM hp)⟩) (.ref p) (q p (hR.free hp))⟩⟩
/-- [x] * n, a list that may change -/
def mRepM : D → D → HH → QD → Prop := fun x y G Q => ∃ xs k, Ls G x xs ∧ y = .int k ∧ -(2 ^ 63) ≤ k ∧ k < 2 ^ 63 ∧ xs.length * k.toNat ≤ sizeLine ∧ ∀ p, G p = none → Q (.ref p) (gput G p (.lst (List.replicate k.toNat xs).flatten))
theorem oRepM : OpD X (binaryOp .Mult) mRepM := ⟨_, op_rep, fun x y H Q dx dy G QD hR px py ⟨xs, k, e1, e2, h1, h2, l, q⟩ hq => by
  obtain ⟨a, vs, rfl, ha, ra⟩ := e1.of hR px
  subst e2; cases py
  exact ⟨_, _, _, rfl, rfl, ha, h1, h2, by rw [← ra.length]; exact l, fun p hp => hq _ _ _ _ (Stp.newM (od := .lst (List.replicate k.toNat xs).flatten) hp) (hR.newM (od := .lst (List.replicate k.toNat xs).flatten) hp ⟨_, upd_same, (ra.rep _).mono (Stp.newM hp)⟩) (.ref p) (q p (hR.free hp))⟩⟩
/-! ### steps -/
section
variable {σ σ' : SD} {G : HH} {Q : QD} {E : ED} {d x y z : D} {ta tb : TED} {nx bk ct : SD → HH → Prop} {rt : QD} {ex : XD → SD → HH → Prop} {N : SD → HH → Prop} {p : Addr} {kvs : List (Key × D)} {k : Key} {v : D}
theorem st_addLM {xs ys : List D} (h1 : Ls G x xs) (h2 : Ls G y ys) (hl : xs.length + ys.length ≤ sizeLine) (h : ∀ p, G p = none → Q (.ref p) (gput G p (.lst (xs ++ ys)))) : aLstM x y G Q := ⟨xs, ys, h1, h2, hl, h⟩
theorem st_repM {xs : List D} {k : Int} (h1 : Ls G x xs) (hk : -(2 ^ 63) ≤ k ∧ k < 2 ^ 63) (hl : xs.length * k.toNat ≤ sizeLine) (h : ∀ p, G p = none → Q (.ref p) (gput G p (.lst (List.replicate k.toNat xs).flatten))) : mRepM x (.int k) G Q := ⟨xs, k, h1, rfl, hk.1, hk.2, hl, h⟩
theorem st_dget (h : td σ G (fun x G1 => ty σ G1 (fun y G2 => ∃ v, DAt G2 x y (some v) ∧ Q v G2) E) E) : dDGet td ty σ G Q E := h
theorem st_dgetq {P : D → Prop} (hp : G p = some (.dK kvs)) (hk : dkey y = some k) (hv : kget kvs k = some v) (h : P v) : ∃ v, DAt G (.ref p) y (some v) ∧ P v := ⟨v, ⟨p, kvs, k, rfl, hp, hk, hv.symm⟩, h⟩
theorem st_din {neg : Bool} (h : ty σ G (fun y G1 => td σ G1 (fun x G2 => ∃ r, DAt G2 x y r ∧ Q (.bl (if neg then !r.isSome else r.isSome)) G2) E) E) : dDIn neg ty td σ G Q E := h
theorem st_dinq {P : Option D → Prop} (hp : G p = some (.dK kvs)) (hk : dkey y = some k) (h : P (kget kvs k)) : ∃ r, DAt G (.ref p) y r ∧ P r := ⟨_, ⟨p, kvs, k, rfl, hp, hk, rfl⟩, h⟩
theorem st_dget1 (h : td σ G (fun x G1 => IsDD G1 x ∧ ty σ G1 (fun y G2 => ∃ r, DAt G2 x y r ∧ Q (r.getD .non) G2) E) E) : dDGet1 td ty σ G Q E := h
theorem st_dget2 (h : td σ G (fun x G1 => IsDD G1 x ∧ ty σ G1 (fun y G2 => tx σ G2 (fun z G3 => ∃ r, DAt G3 x y r ∧ Q (r.getD z) G3) E) E) E) : dDGet2 td ty tx σ G Q E := h
theorem st_isDD {P : Prop} (hp : G p = some (.dK kvs)) (h : P) : IsDD G (.ref p) ∧ P := ⟨⟨p, kvs, rfl, hp⟩, h⟩
theorem st_dnew (h : ∀ p, G p = none → Q (.ref p) (gput G p (.dK []))) : dDNew σ G Q E := h
theorem st_dput {tv : TED} (h : tv σ G (fun v G1 => td σ G1 (fun x G2 => ty σ G2 (fun y G3 => ∃ p kvs k, x = .ref p ∧ G3 p = some (.dK kvs) ∧ dkey y = some k ∧ kvs.length < sizeLine ∧ nx σ (gput G3 p (.dK (kput kvs k v)))) (fun x G' => ex x σ G')) (fun x G' => ex x σ G')) (fun x G' => ex x σ G')) : dDPut td ty tv ⟨nx, rt, bk, ct, ex⟩ σ G := h
theorem st_dputq {P : HH → Prop} (hp : G p = some (.dK kvs)) (hk : dkey y = some k) (hl : kvs.length < sizeLine) (h : P (gput G p (.dK (kput kvs k v)))) : ∃ p' kvs' k', D.ref p = .ref p' ∧ G p' = some (.dK kvs') ∧ dkey y = some k' ∧ kvs'.length < sizeLine ∧ P (gput G p' (.dK (kput kvs' k' v))) := ⟨p, kvs, k, rfl, hp, hk, hl, h⟩
theorem st_par3 {i j l : Nat} {t : TAD} (h : t σ G (fun ds G1 => ∃ d e f, ds = [d, e, f] ∧ nx (((σ.set i (some d)).set j (some e)).set l (some f)) G1) (fun x G1 => ex x σ G1)) : dPar3 i j l t ⟨nx, rt, bk, ct, ex⟩ σ G := h
theorem st_par3q {i j l : Nat} {e f : D} {σ1 σ2 σ3 : SD} (h1 : SetAt σ i d σ1) (h2 : SetAt σ1 j e σ2) (h3 : SetAt σ2 l f σ3) (h : N σ3 G) : ∃ d' e' f', [d, e, f] = [d', e', f'] ∧ N (((σ.set i (some d')).set j (some e')).set l (some f')) G := ⟨d, e, f, rfl, by rw [h1.at, h2.at, h3.at]; exact h⟩
end
end DL

namespace DL
open PySem PySem.Spec PyProof.Rows L2
open PySem.W (Frag)
/-- all but q as it was -/
def But (p : Addr) (G G' : HH) : Prop := ∀ b, b ≠ p → G' b = G b
theorem But.refl {p : Addr} {G : HH} : But p G G := fun _ _ => rfl
theorem But.trans {p : Addr} {G G1 G2 : HH} (a : But p G G1) (b : But p G1 G2) : But p G G2 := fun c h => (b c h).trans (a c h)
theorem But.put {p : Addr} {G G1 : HH} {o : HOD} (a : But p G G1) : But p G (gput G1 p o) := fun c h => (gput_ne h).trans (a c h)
section
variable {σ : SD} {G : HH} {Q : QD} {E : ED}
/-- a comprehension whose elements are drawn (at q), K draws each -/
theorem lc_dr {α : Type} {xs : List α} {c : α → D} {g : Tgt} {te : TED} {vs : List Nat} {ok : HH → Prop} {q : Addr} {N : Nat} (Dr : HH → Nat → Prop) (hat : ∀ {G G' M}, G' q = G q → Dr G M → Dr G' M) (hne : ∀ {G M}, Dr G M → G q ≠ none) (K : Nat) (P : D → Prop)
    (hd : Dr G N) (hok : ∀ G' : HH, (∀ b, b ≠ q → G b ≠ none → G' b = G b) → ok G') (hl : xs.length ≤ sizeLine)
    (he : ∀ a, a ∈ xs → ∀ (G' : HH) (M : Nat), Dr G' M → M + K ≤ N + K * xs.length → (∀ b, b ≠ q → G b ≠ none → G' b = G b) → ∃ σ2, g.put (c a) (wipeD σ vs) = some σ2 ∧
      ∀ Q' : QD, (∀ d G'', P d → Dr G'' (M + K) → But q G' G'' → Q' d G'') → te σ2 G' Q' (fun _ _ => False))
    (hq : ∀ ds G', ds.length = xs.length → (∀ d ∈ ds, P d) → Dr G' (N + K * xs.length) → But q G G' → Q (.lst ds) G') : LcG true (xs.map c) ok g dYes te vs σ G Q := by
  intro p hp
  have hqp : q ≠ p := fun z => hne hd (z ▸ hp)
  refine ⟨fun pre G' => ∃ acc, G' p = some (.lst acc) ∧ acc.length = pre.length ∧ (∀ d ∈ acc, P d) ∧ pre.length ≤ xs.length ∧ Dr G' (N + K * pre.length) ∧ ∀ b, b ≠ q → b ≠ p → G' b = G b, ⟨[], gput_same, rfl, by simp, Nat.zero_le _, hat (gput_ne hqp) hd, fun b _ h => gput_ne h⟩, ?_, ?_, ?_⟩
  · rintro pre G' ⟨acc, h1, h2, h3, h4, h5, h6⟩
    exact hok G' fun b hb hn => h6 b hb fun z => hn (z ▸ hp)
  · rintro pre x post G' e ⟨acc, h1, h2, h3, h4, h5, h6⟩
    have hlt : pre.length < xs.length := by
      have := congrArg List.length e
      simp at this
      omega
    have hx : xs[pre.length]? = some xs[pre.length] := List.getElem?_eq_getElem hlt
    have e2 : x = c xs[pre.length] := by
      have : (xs.map c)[pre.length]? = some x := by rw [e]; simp
      rw [List.getElem?_map, hx] at this
      exact (Option.some.inj this).symm
    subst e2
    have hK : K * (pre.length + 1) ≤ K * xs.length := Nat.mul_le_mul_left _ hlt
    rw [Nat.mul_add, Nat.mul_one] at hK
    obtain ⟨σ2, a1, a2⟩ := he _ (List.getElem_mem hlt) G' _ h5 (by omega) fun b hb hn => h6 b hb fun z => hn (z ▸ hp)
    refine ⟨σ2, a1, ?_⟩
    dsimp only [dYes]
    rw [if_pos rfl]
    refine a2 _ fun d G'' hP hD hB => ⟨acc, by rw [hB p hqp.symm]; exact h1, by omega, acc ++ [d], gput_same, by simp [h2], ?_, by simp; omega, ?_, fun b hb hb2 => by rw [gput_ne hb2, hB b hb, h6 b hb hb2]⟩
    · intro z hz
      rcases List.mem_append.mp hz with hz | hz
      · exact h3 z hz
      · rw [List.mem_singleton.mp hz]; exact hP
    · refine hat (gput_ne hqp) ?_
      rw [List.length_append, List.length_singleton, Nat.mul_add, Nat.mul_one, ← Nat.add_assoc]
      exact hD
  · rintro G' ⟨acc, h1, h2, h3, h4, h5, h6⟩
    rw [List.length_map] at h2 h5
    refine ⟨acc, h1, ?_⟩
    rw [if_pos rfl]
    refine hq acc _ h2 h3 (hat (gdel_ne hqp) h5) fun b hb => ?_
    by_cases hb2 : b = p
    · subst hb2; rw [gdel_same, hp]
    · rw [gdel_ne hb2]; exact h6 b hb hb2
end
section
variable {σ : SD} {G : HH} {g : TGD} {tb : TSD} {nx : SD → HH → Prop} {rt : QD} {ex : XD → SD → HH → Prop}
theorem for_rng0 {n : Nat} (Iv : Nat → SD → HH → Prop) (h0 : Iv 0 σ G)
    (hs : ∀ (i : Nat) σ G, i < n → Iv i σ G → g (.int (i : Int)) σ G (fun σ2 G2 => tb ⟨Iv (i + 1), rt, nx, Iv (i + 1), ex⟩ σ2 G2)) (he : ∀ σ G, Iv n σ G → nx σ G) : ForG (rgItems 0 n) okT g tb nx rt ex σ G :=
  for_rng Iv h0 (fun i σ G hi iv => by rw [Int.zero_add]; exact hs i σ G hi iv) he
end
section
variable {G : HH} {p : Addr} {P : Prop} {xs : List D}
theorem st_tru_blq {k : Bool} {P : Bool → Prop} (q : P k) : ∃ k', Tru G (.bl k) k' ∧ P k' := ⟨k, .bl k, q⟩
theorem st_tyL (hp : G p = some (.lst xs)) (h : P) : tyL (.ref p) G ∧ P := ⟨⟨p, xs, rfl, hp⟩, h⟩
end
theorem least (P : Nat → Prop) : ∀ m, P m → ∃ k, P k ∧ ∀ j, P j → k ≤ j := by
  intro m
  induction m using Nat.strongRecOn with
  | _ m ih =>
    intro h
    by_cases hk : ∃ k, k < m ∧ P k
    · obtain ⟨k, h1, h2⟩ := hk
      exact ih k h1 h2
    · exact ⟨m, h, fun j hj => Nat.le_of_not_lt fun z => hk ⟨j, z, hj⟩⟩
section
variable {σ : SD} {G : HH} {tb : TSD} {tA : TTD} {nx bk ct : SD → HH → Prop} {rt : QD} {ex : XD → SD → HH → Prop}
/-- the least measure at which an invariant holds -/
noncomputable def lst (Iv : Nat → SD → HH → Prop) (σ : SD) (G : HH) (h : ∃ m, Iv m σ G) : Nat := Classical.choose (least (fun m => Iv m σ G) (Classical.choose h) (Classical.choose_spec h))
theorem lst_ok (Iv : Nat → SD → HH → Prop) (σ : SD) (G : HH) (h : ∃ m, Iv m σ G) : Iv (lst Iv σ G h) σ G ∧ ∀ j, Iv j σ G → lst Iv σ G h ≤ j := Classical.choose_spec (least (fun m => Iv m σ G) (Classical.choose h) (Classical.choose_spec h))
open Classical in
/-- while, by an invariant that has its own measure -/
theorem st_whileN (Iv : Nat → SD → HH → Prop) (m0 : Nat) (h0 : Iv m0 σ G)
    (hs : ∀ (m : Nat) (σ : SD) (G : HH) (nx' : SD → HH → Prop), Iv m σ G → (∀ m' σ' G', m' < m → Iv m' σ' G' → nx' σ' G') → tA σ G (fun b G1 => if b = true then tb ⟨nx', rt, nx, nx', ex⟩ σ G1 else nx σ G1) (fun x G1 => ex x σ G1)) : dWhile tA tb ⟨nx, rt, bk, ct, ex⟩ σ G := by
  refine st_while (fun σ G => ∃ m, Iv m σ G) (fun σ G => if h : ∃ m, Iv m σ G then lst Iv σ G h else 0) ⟨m0, h0⟩ fun σ G hi => ?_
  refine hs _ σ G _ (lst_ok Iv σ G hi).1 fun m' σ' G' hm' hi' => ⟨⟨m', hi'⟩, ?_⟩
  rw [dif_pos ⟨m', hi'⟩, dif_pos hi]
  exact Nat.lt_of_le_of_lt ((lst_ok Iv σ' G' ⟨m', hi'⟩).2 m' hi') hm'
end
section
variable {σ : SD} {G : HH} {Q : QD} {ok : HH → Prop}
/-- each element by itself into a list that may change -/
theorem lc_mapM {α : Type} {xs : List α} {c : α → D} {g : Tgt} {te : TED} {vs : List Nat} (f : α → D) (hok : ∀ p acc, G p = none → ok (gput G p (.lst acc))) (hl : xs.length ≤ sizeLine)
    (he : ∀ a, a ∈ xs → ∀ p acc, G p = none → ∃ σ2, g.put (c a) (wipeD σ vs) = some σ2 ∧ ∀ Q' : QD, Q' (f a) (gput G p (.lst acc)) → te σ2 (gput G p (.lst acc)) Q' (fun _ _ => False))
    (hq : ∀ p, G p = none → Q (.ref p) (gput G p (.lst (xs.map f)))) : LcG false (xs.map c) ok g dYes te vs σ G Q := by
  intro p hp
  refine ⟨fun pre G' => G' = gput G p (.lst ((xs.take pre.length).map f)), by simp, fun pre G' h => by rw [h]; exact hok p _ hp, fun pre x post G' e iv => ?_, fun G' iv => ?_⟩
  · subst iv
    have hlt : pre.length < xs.length := by
      have := congrArg List.length e
      simp at this
      omega
    have hx : xs[pre.length]? = some xs[pre.length] := List.getElem?_eq_getElem hlt
    have e2 : x = c xs[pre.length] := by
      have : (xs.map c)[pre.length]? = some x := by rw [e]; simp
      rw [List.getElem?_map, hx] at this
      exact (Option.some.inj this).symm
    subst e2
    obtain ⟨σ2, h1, h2⟩ := he _ (List.getElem_mem hlt) p ((xs.take pre.length).map f) hp
    refine ⟨σ2, h1, ?_⟩
    dsimp only [dYes]
    rw [if_pos rfl]
    have tk : xs.take (pre ++ [c xs[pre.length]]).length = xs.take pre.length ++ [xs[pre.length]] := by
      have := take_snoc hx
      simpa using this
    refine h2 _ ⟨_, gput_same, ?_, ?_⟩
    · rw [List.length_map, List.length_take]
      omega
    · rw [gput_gput, tk, List.map_append]
      rfl
  · subst iv
    refine ⟨_, gput_same, ?_⟩
    rw [if_neg Bool.false_ne_true]
    simpa using hq p hp
end
theorem bulkAll_le {B : Nat} : ∀ {xs : List PyData}, (∀ x ∈ xs, x.bulk ≤ B) → PyData.bulkAll xs ≤ (B + 1) * xs.length
  | [], _ => by simp [PyData.bulkAll]
  | x :: xs, h => by
    have a1 := h x (by simp)
    have a2 := bulkAll_le (xs := xs) fun y hy => h y (by simp [hy])
    simp only [PyData.bulkAll, List.length_cons, Nat.mul_add]
    omega
theorem fineAll_of {b n : Nat} : ∀ {xs : List PyData}, (∀ x ∈ xs, fine b n x) → fineAll b n xs
  | [], _ => by simp [fineAll]
  | x :: xs, h => by
    simp only [fineAll]
    exact ⟨h x (by simp), fineAll_of fun y hy => h y (by simp [hy])⟩
theorem pys_map {α : Type} {f : α → D} {g : α → PyData} (h : ∀ a, (f a).py = some (g a)) : ∀ xs : List α, pys (xs.map f) = some (xs.map g)
  | [] => rfl
  | x :: xs => by simp [pys, h x, pys_map h xs]
theorem st_neSame {x : Str} {A B : Prop} (h : B) : if (!decide (x = x)) = true then A else B := by
  rw [decide_eq_true (rfl : x = x)]; exact h
theorem st_eqSame {x : Str} {A B : Prop} (h : A) : if decide (x = x) = true then A else B := by
  rw [decide_eq_true (rfl : x = x)]; exact h
end DL

namespace LW
open PySem PySem.Spec PyProof.Rows L2 DL
open PySem.W (Frag)
/-! short ways through the steps (local to this text) -/
theorem st_sz {xs : List D} {P : Prop} (h : xs.length ≤ sizeLine) (q : P) : xs.length ≤ sizeLine ∧ P := ⟨h, q⟩
theorem ne_sn {G : HH} {p q : Addr} {o : HOD} (h : G p = some o) (h' : G q = none) : p ≠ q := by intro e; rw [e, h'] at h; cases h
local macro_rules | `(tactic| walk_at "get") => `(tactic| first | exact GetAt.z | (refine' GetAt.s ?k3; (case k3 => walk_at "get")))
local macro_rules | `(tactic| walk_at "put") => `(tactic| first | exact SetAt.z | (refine' SetAt.s ?k3; (case k3 => walk_at "put")))
local macro_rules | `(tactic| walk_at "ne") => `(tactic| first | assumption | (refine Ne.symm ?_; assumption) | exact ne_sn (by assumption) (by assumption) | exact Ne.symm (ne_sn (by assumption) (by assumption)))
local macro_rules | `(tactic| walk_at "hp") => `(tactic| first | assumption | exact gput_same | exact gdel_same | (refine' (gput_ne ?k4).trans ?k5; (case k4 => walk_at "ne"); (case k5 => walk_at "hp")) | (refine' (gdel_ne ?k4).trans ?k5; (case k4 => walk_at "ne"); (case k5 => walk_at "hp")))
local macro_rules | `(tactic| walk_at "sq") => `(tactic| first | with_reducible exact Sq.tup _ | with_reducible exact Sq.lst _ | with_reducible exact Sq.wls _ | with_reducible exact LsW.lst _ | with_reducible exact LsW.wls _ | with_reducible exact Ls.lst _ | ((with_reducible refine' Sq.ref ?k6); (case k6 => walk_at "hp")) | ((with_reducible refine' LsW.ref ?k6); (case k6 => walk_at "hp")) | ((with_reducible refine' Ls.ref ?k6); (case k6 => walk_at "hp")))
local macro_rules | `(tactic| walk_at "sz") => `(tactic| first | decide | omega | (simp only [List.length_append, List.length_cons, List.length_nil, List.length_map, sizeLine_eq]; omega))
local macro_rules | `(tactic| walk_at "d1") => `(tactic| first
  | with_reducible refine st_seq ?_ | with_reducible refine st_asg ?_
  | ((with_reducible refine' st_var ?k1 ?k2); (case k1 => walk_at "get"))
  | with_reducible refine st_c ?_ | with_reducible refine st_op ?_
  | with_reducible refine st_cons ?_ | with_reducible refine st_nil ?_
  | ((with_reducible refine' st_name ?k1 ?k2); (case k1 => walk_at "put"))
  | with_reducible refine st_oI0 ?_ | with_reducible refine st_addI ?_
  | with_reducible refine st_call ?_ | with_reducible refine st_cb ?_ | with_reducible refine st_callK ?_
  | with_reducible refine st_test ?_ | with_reducible refine st_bl ?_ | with_reducible refine st_blq ?_
  | with_reducible refine st_and ?_ | with_reducible refine st_or ?_ | with_reducible refine st_not ?_
  | with_reducible refine st_tru ?_ | with_reducible refine st_tru_blq ?_
  | with_reducible refine st_andV ?_ | with_reducible refine st_orV ?_ | with_reducible refine st_notV ?_
  | with_reducible refine st_if ?_ | with_reducible refine st_sl ?_ | with_reducible refine st_nopart ?_ | with_reducible refine st_part ?_ | with_reducible refine st_int ?_
  | with_reducible refine st_next ?_ | with_reducible refine st_break ?_ | with_reducible refine st_cont ?_
  | with_reducible refine st_for ?_ | with_reducible refine st_lc ?_
  | ((with_reducible refine' st_setat ?k1 ?k2 ?k3); (case k1 => walk_at "hp"); (case k2 => first | assumption | rfl))
  | with_reducible refine st_drop ?_ | with_reducible refine st_ret ?_ | with_reducible refine st_retN ?_ | with_reducible refine st_retF ?_
  | with_reducible refine st_neSame ?_ | with_reducible refine st_eqSame ?_
  | with_reducible refine st_ifS ?_ | with_reducible refine st_iteT ?_ | with_reducible refine st_iteF ?_
  | with_reducible refine st_gtup rfl ?_ | with_reducible refine st_gnil ?_ | with_reducible refine st_gcons ?_ | with_reducible refine st_gsub ?_
  | with_reducible refine st_par ?_ | with_reducible refine st_iTup ?_ | with_reducible refine st_tupq ?_ | with_reducible refine st_iLst ?_ | with_reducible refine st_lsq ?_ | with_reducible refine st_wlsq ?_
  | with_reducible refine st_rng1 ?_ | with_reducible refine st_rng2 ?_ | ((with_reducible refine' st_rng1q ?k1 ?k2 ?k3); (case k1 => walk_at "sz"); (case k2 => walk_at "sz"))
  | ((with_reducible refine' st_rng2q ?k1 ?k2); (case k1 => (refine ⟨?_, ?_, ?_, ?_⟩ <;> walk_at "sz")))
  | ((with_reducible refine' st_par2 ?k1 ?k2 ?k3); (case k1 => walk_at "put"); (case k2 => walk_at "put"))
  | with_reducible refine st_un ?_ | with_reducible refine st_uI ?_
  | ((with_reducible refine' st_mulI ?k1 ?k2); (case k1 => first | with_reducible assumption | decide))
  | ((with_reducible refine' st_oI ?k1 ?k2); (case k1 => first | with_reducible assumption | omega | decide | (refine ⟨?_, ?_, ?_⟩ <;> first | decide | omega)))
  | with_reducible refine st_eqI ?_ | with_reducible refine st_neI ?_ | with_reducible refine st_eqS ?_ | with_reducible refine st_neS ?_
  | ((with_reducible refine' st_len ?k1 ?k2); (case k1 => walk_at "sq"))
  | with_reducible refine st_abs ?_ | with_reducible refine st_max2 ?_ | with_reducible refine st_min2 ?_ | with_reducible refine st_toInt ?_ | with_reducible refine st_toIntB ?_ | with_reducible refine st_bool ?_
  | ((with_reducible refine' st_tuple ?k1 ?k2); (case k1 => walk_at "sq"))
  | ((with_reducible refine' st_list ?k1 ?k2); (case k1 => walk_at "sq"))
  | with_reducible refine st_tup ⟨by walk_at "sz", ?_⟩ | with_reducible refine st_lst ?_ | with_reducible refine st_lstM ?_ | with_reducible refine st_tup ?_
  | ((with_reducible refine' st_sz ?k1 ?k2); (case k1 => walk_at "sz"))
  | with_reducible refine st_bm ?_ | with_reducible refine st_bm0 ?_
  | ((with_reducible refine' st_frz ?k1 ?k2 ?k3 ?k4); (case k1 => walk_at "get"); (case k2 => walk_at "hp"); (case k3 => walk_at "put"))
  | ((with_reducible refine' st_addL ?k1 ?k2 ?k3 ?k4); (case k1 => walk_at "sq"); (case k2 => walk_at "sq"); (case k3 => walk_at "sz"))
  | ((with_reducible refine' st_addT ?k1 ?k2); (case k1 => walk_at "sz"))
  | ((with_reducible refine' st_tyL ?k1 ?k2); (case k1 => walk_at "hp"))
  | ((with_reducible refine' st_append ?k1 ?k2 ?k3); (case k1 => walk_at "hp"); (case k2 => walk_at "sz"))
  | with_reducible refine st_dget ?_ | with_reducible refine st_din ?_ | with_reducible refine st_dget1 ?_ | with_reducible refine st_dget2 ?_ | with_reducible refine st_dnew ?_ | with_reducible refine st_dput ?_ | with_reducible refine st_par3 ?_
  | ((with_reducible refine' st_isDD ?k1 ?k2); (case k1 => walk_at "hp"))
  | ((with_reducible refine' st_dinq ?k1 ?k2 ?k3); (case k1 => walk_at "hp"); (case k2 => rfl))
  | ((with_reducible refine' st_par3q ?k1 ?k2 ?k3 ?k4); (case k1 => walk_at "put"); (case k2 => walk_at "put"); (case k3 => walk_at "put"))
  | ((with_reducible refine' st_slL ?k1 ?k2); (case k1 => walk_at "sq")) | with_reducible refine st_slT ?_
  | ((with_reducible refine' st_ix ?k1 ?k2 ?k3); (case k1 => walk_at "sq"); (case k2 => first | assumption | rfl)))
local macro_rules | `(tactic| walk_at "d") => `(tactic| repeat walk_at "d1")

theorem divW {i m : Int} (h0 : 0 < m) (h1 : m < 2 ^ 64) : CDivW i m := wide_div (b := 64) h0 (by omega) (by decide) (by decide)
theorem mulW64 {i j : Int} (h1 : i.natAbs < 2 ^ 64) (h2 : j.natAbs < 2 ^ 64) : CMulX i j := mulx_ok h1 h2 (by decide)

/-! ### drawing: great digits, then mixed ones -/
/-- drawn at p, after at most N draws -/
def Drw (G : HH) (p : Addr) (N : Nat) : Prop := ∃ x m n : Int, G p = some (.lst [.int x, .int m, .int n]) ∧ 0 ≤ x ∧ 0 ≤ m ∧ m < 2305843009213693951 ∧ 0 ≤ n ∧ n ≤ (N : Int)
theorem Drw.mono {G : HH} {p : Addr} {N M : Nat} (h : Drw G p N) (l : N ≤ M) : Drw G p M := by
  obtain ⟨x, m, n, h1, h2, h3, h4, h5, h6⟩ := h
  exact ⟨x, m, n, h1, h2, h3, h4, h5, by omega⟩
theorem Drw.at {G G' : HH} {p : Addr} {N : Nat} (h : Drw G p N) (e : G' p = G p) : Drw G' p N := by
  obtain ⟨x, m, n, h1, h2⟩ := h
  exact ⟨x, m, n, by rw [e]; exact h1, h2⟩
theorem Drw.ne {G : HH} {p q : Addr} {N : Nat} (h : Drw G p N) (e : G q = none) : p ≠ q := by
  obtain ⟨x, m, n, h1, h2⟩ := h
  intro z; rw [z, e] at h1; cases h1
theorem Drw.some {G : HH} {p : Addr} {N : Nat} (h : Drw G p N) : G p ≠ none := by
  obtain ⟨x, m, n, h1, h2⟩ := h
  rw [h1]; simp
theorem Drw.put {G : HH} {p q : Addr} {N : Nat} {o : HOD} (h : Drw G p N) (e : p ≠ q) : Drw (gput G q o) p N := h.at (gput_ne e)
theorem Drw.del {G : HH} {p q : Addr} {N : Nat} (h : Drw G p N) (e : p ≠ q) : Drw (gdel G q) p N := h.at (gdel_ne e)
def N_law_draws : List Str := ["_law_script", "_law_cell", "_law_great", "_law_mixed"]
def t_law_drawsP (c1 c2 c3 : Int) : TSD := (dSeq (dPar 2 3 (dCons (dC (.int 0)) (dCons (dOp aAny (dC (.int c1)) (dOp mAny (dC (.int c2)) (dCB kLen (dCons (dVar 0) dNil)))) dNil)))
  (dSeq (dFor (iLstD (dSl (dVar 0) dNoPart (dPart (dC (.int 60))))) (gdName 1)
  (dSeq (dAsg (dOp aMod (dOp aAny (dOp aAny (dOp aAny (dOp mAny (dVar 3) (dC (.int 1000003))) (dOp mAny (dC (.int 2)) (dCB kAbs (dCons (dVar 1) dNil)))) (dCB kInt (dCons (dOp cLtI (dVar 1) (dC (.int 0))) dNil))) (dC (.int c3))) (dC (.int 2305843009213693951))) (gdName 3))
  (dIfS (dTest (dOp cGeI (dCB kAbs (dCons (dVar 1) dNil)) (dOp aPow (dC (.int 10)) (dC (.int 18)))))
  (dAsg (dOp aAny (dOp mAny (dVar 2) (dC (.int 29))) (dCB kAbs (dCons (dVar 1) dNil))) (gdName 2))
  dNext)))
  (dRet (dLstM (dCons (dVar 2) (dCons (dVar 3) (dCons (dC (.int 0)) dNil)))))))
def sp_law_draws : SpD := fun ds G Q _ => ∃ ns : List Int, ds = [.wls (ns.map D.int)] ∧ ns.length ≤ 63 ∧ Bits ns ∧ ∀ p G', G p = none → Drw G' p 0 → But p G G' → Q (.ref p) G'
theorem len_law_draws : ∀ ds G Q E, sp_law_draws ds G Q E → ds.length = 1 := by rintro ds G Q E ⟨n, rfl, _⟩; rfl
theorem cutD_map {α : Type} {c : α → D} {xs : List α} {lo hi : Option Int} : dcut (xs.map c) lo hi = ((xs.drop (HT.sIx xs.length 0 lo)).take (HT.sIx xs.length xs.length hi - HT.sIx xs.length 0 lo)).map c := by
  unfold dcut
  rw [List.length_map, ← List.map_drop, ← List.map_take]
/-- as a name of its own, so that no arithmetic looks into it -/
@[irreducible] def Fit (x : Int) (b : Nat) : Prop := x.natAbs < 2 ^ (BB + b)
theorem Fit.of {x : Int} {b : Nat} (h : x.natAbs < 2 ^ (BB + b)) : Fit x b := by unfold Fit; exact h
theorem Fit.to {x : Int} {b : Nat} (h : Fit x b) : x.natAbs < 2 ^ (BB + b) := by unfold Fit at h; exact h
theorem Fit.bits {ns : List Int} (h : Bits ns) {z : Int} (hz : z ∈ ns) : Fit z 0 := by unfold Fit; rw [Nat.add_zero]; exact h z hz
theorem Fit.le {x : Int} {b c : Nat} (h : Fit x b) (l : b ≤ c) : Fit x c := .of (Nat.lt_of_lt_of_le h.to (Nat.pow_le_pow_right (by decide) (by omega)))
theorem Fit.zero {b : Nat} : Fit 0 b := .of (Nat.pos_of_ne_zero (by simp))
theorem great_next {x z : Int} {b : Nat} (h0 : 0 ≤ x) (h1 : Fit x b) (h2 : Fit z 0) : Fit (x * 29 + (z.natAbs : Int)) (b + 5) := by
  unfold Fit at *
  rw [Nat.add_zero] at h2
  have e : 2 ^ (BB + (b + 5)) = 2 ^ (BB + b) * 32 := by rw [← Nat.add_assoc, Nat.pow_add]
  have l : 2 ^ BB ≤ 2 ^ (BB + b) := Nat.pow_le_pow_right (by decide) (by omega)
  rw [e]
  generalize 2 ^ (BB + b) = B at *
  generalize 2 ^ BB = A at *
  omega
theorem mul_two_bb {z : Int} (h : Fit z 0) : CMulX 2 (z.natAbs : Int) := by
  refine mulx_ok (a := 2) (b := BB) (by decide) (by have h := h.to; rw [Nat.add_zero] at h; rw [Int.natAbs_natCast]; exact h) ?_
  show 2 + 1048576 ≤ 134217728
  decide
theorem mul_great_bb {x : Int} {k : Nat} (h : Fit x (k * 5)) (hk : k ≤ 63) : CMulX x 29 := by
  refine mulx_ok (a := BB + k * 5) (b := 5) h.to (by decide) ?_
  show 1048576 + k * 5 + 5 ≤ 134217728
  omega
theorem vc_law_drawsP (c1 c2 c3 : Int) (k1 : 0 ≤ c1 ∧ c1 < 2 ^ 40) (k2 : 0 ≤ c2 ∧ c2 < 2 ^ 40) (k3 : 0 ≤ c3 ∧ c3 < 2 ^ 40) : ∀ ds G Q EX, sp_law_draws ds G Q EX → t_law_drawsP c1 c2 c3 { nx := fun _ G' => Q .non G', rt := Q, ex := fun x _ G' => EX x G' } (startD N_law_draws ds) G := by
  rintro ds G Q EX ⟨ns, rfl, h1, hbt, hq⟩
  show t_law_drawsP c1 c2 c3 _ [some (D.wls (ns.map D.int)), none, none, none] _
  unfold t_law_drawsP
  walk_at "d"
  rw [List.length_map]
  refine st_mulI (mulW64 (by omega) (by omega)) ?_
  walk_at "d"
  rw [cutD_map]
  have hcl : ((ns.drop (HT.sIx ns.length 0 none)).take (HT.sIx ns.length ns.length (some 60) - HT.sIx ns.length 0 none)).length ≤ 63 := by
    rw [List.length_take, List.length_drop]; omega
  have hcm : ∀ z ∈ (ns.drop (HT.sIx ns.length 0 none)).take (HT.sIx ns.length ns.length (some 60) - HT.sIx ns.length 0 none), Fit z 0 := fun z hz => Fit.bits hbt (List.mem_of_mem_drop (List.mem_of_mem_take hz))
  generalize (ns.drop (HT.sIx ns.length 0 none)).take (HT.sIx ns.length ns.length (some 60) - HT.sIx ns.length 0 none) = cl at hcl hcm
  refine for_map (fun pre σ G' => ∃ v x m : Int, ∃ w, σ = [some (.wls (ns.map D.int)), w, some (.int x), some (.int m)] ∧ G' = G ∧ 0 ≤ x ∧ Fit x (pre.length * 5) ∧ 0 ≤ m ∧ m < 2305843009213693951) ?_ ⟨0, 0, _, _, rfl, rfl, by omega, ?_, ?_, ?_⟩ ?_ ?_
  · rintro pre σ G' ⟨v, x, m, w, rfl, rfl, hx⟩
    exact LsW.lst _
  · exact Fit.zero
  · have := Int.mul_nonneg k2.1 (show (0 : Int) ≤ (ns.length : Int) by omega)
    omega
  · have := Int.mul_le_mul (a := c2) (b := (ns.length : Int)) (c := 2 ^ 40) (d := 63) (by omega) (by omega) (by omega) (by decide)
    omega
  · rintro pre a post σ G' e ⟨v, x, m, w, rfl, rfl, hx0, hx1, hm0, hm1⟩
    have ha := hcm a (by rw [e]; simp)
    have hl : pre.length < 63 := by
      have := congrArg List.length e
      simp at this
      omega
    walk_at "d"
    refine st_mulI (mulW64 (by omega) (by decide)) ?_
    walk_at "d"
    refine st_mulI (mul_two_bb ha) ?_
    walk_at "d"
    obtain ⟨m2, em, hm2, hm3⟩ : ∃ m2 : Int, (m * 1000003 + 2 * (a.natAbs : Int) + (if decide (a < 0) then 1 else 0) + c3) % 2305843009213693951 = m2 ∧ 0 ≤ m2 ∧ m2 < 2305843009213693951 :=
      ⟨_, rfl, Int.emod_nonneg _ (by decide), Int.emod_lt_of_pos _ (by decide)⟩
    rw [em]
    walk_at "d"
    refine st_ite (fun _ => ?_) (fun _ => ?_)
    · walk_at "d"
      refine st_mulI (mul_great_bb hx1 (by omega)) ?_
      walk_at "d"
      refine ⟨0, _, _, _, rfl, rfl, by omega, ?_, hm2, hm3⟩
      rw [List.length_append, Nat.add_mul]
      exact great_next hx0 hx1 ha
    · walk_at "d"
      refine ⟨0, _, _, _, rfl, rfl, hx0, hx1.le ?_, hm2, hm3⟩
      rw [List.length_append]
      omega
  · rintro σ G' ⟨v, x, m, w, rfl, rfl, hx0, hx1, hm0, hm1⟩
    walk_at "d"
    intro p hp
    exact hq p _ hp ⟨x, m, 0, gput_same, hx0, hm0, hm1, by omega, by omega⟩ (But.put But.refl)
def N_law_next : List Str := ["_law_drawn", "_law_many", "_law_mixed", "_law_digit"]
def t_law_next : TSD := (dSeq (dIfS (dTest (dOp cGtI (dOp xAny (dVar 0) (dC (.int 0))) (dC (.int 0))))
  (dSeq (dAsg (dOp aMod (dCB kInt (dCons (dOp xAny (dVar 0) (dC (.int 0))) dNil)) (dVar 1)) (gdName 3))
  (dSeq (dAsg (dOp aDiv (dOp xAny (dVar 0) (dC (.int 0))) (dVar 1)) (gdSub (dVar 0) (dC (.int 0))))
  (dRet (dVar 3))))
  dNext)
  (dSeq (dAsg (dOp aAny (dOp xAny (dVar 0) (dC (.int 2))) (dC (.int 1))) (gdSub (dVar 0) (dC (.int 2))))
  (dSeq (dAsg (dOp aMod (dOp aAny (dCB kInt (dCons (dOp xAny (dVar 0) (dC (.int 1))) dNil)) (dOp mAny (dC (.int 11400714819323198485)) (dOp xAny (dVar 0) (dC (.int 2))))) (dC (.int 18446744073709551557))) (gdName 2))
  (dSeq (dAsg (dOp aMod (dOp mAny (dVar 2) (dOp aAny (dOp aMod (dVar 2) (dC (.int 4294967291))) (dC (.int 7)))) (dC (.int 2305843009213693951))) (gdName 2))
  (dRet (dOp aMod (dOp aDiv (dOp aMod (dOp mAny (dVar 2) (dVar 2)) (dC (.int 2305843009213693921))) (dC (.int 2048))) (dVar 1)))))))
def sp_law_next : SpD := fun ds G Q _ => ∃ (p : Addr) (m : Int) (N : Nat), ds = [.ref p, .int m] ∧ Drw G p N ∧ N ≤ 2 ^ 40 ∧ 0 < m ∧ m < 2 ^ 64 ∧
  ∀ r G', 0 ≤ r → r < m → Drw G' p (N + 1) → But p G G' → Q (.int r) G'
theorem len_law_next : ∀ ds G Q E, sp_law_next ds G Q E → ds.length = 2 := by rintro ds G Q E ⟨p, m, N, rfl, _⟩; rfl
theorem vc_law_next : ∀ ds G Q EX, sp_law_next ds G Q EX → t_law_next { nx := fun _ G' => Q .non G', rt := Q, ex := fun x _ G' => EX x G' } (startD N_law_next ds) G := by
  rintro ds G Q EX ⟨p, m, N, rfl, ⟨x, c, n, hp, hx, hc0, hc1, hn, hnN⟩, hN, hm, hm2, hq⟩
  show t_law_next _ [some (D.ref p), some (D.int m), none, none] _
  unfold t_law_next
  walk_at "d"
  refine st_ite (fun hx0 => ?_) (fun hx0 => ?_)
  · walk_at "d"
    refine st_oI (divW hm hm2) ?_
    walk_at "d"
    refine hq _ _ (Int.emod_nonneg _ (by omega)) (Int.emod_lt_of_pos _ hm) ⟨x / m, c, n, gput_same, Int.ediv_nonneg hx (by omega), hc0, hc1, hn, by omega⟩ ?_
    exact But.put But.refl
  · walk_at "d"
    refine st_mulI (mulW64 (by decide) (by omega)) ?_
    walk_at "d"
    obtain ⟨y1, ey, hy1, hy2⟩ : ∃ y1 : Int, (c + 11400714819323198485 * (n + 1)) % 18446744073709551557 = y1 ∧ 0 ≤ y1 ∧ y1 < 18446744073709551557 :=
      ⟨_, rfl, Int.emod_nonneg _ (by decide), Int.emod_lt_of_pos _ (by decide)⟩
    rw [ey]
    refine st_mulI (mulW64 (by omega) (by omega)) ?_
    walk_at "d"
    obtain ⟨y2, ey2, hy3, hy4⟩ : ∃ y2 : Int, y1 * (y1 % 4294967291 + 7) % 2305843009213693951 = y2 ∧ 0 ≤ y2 ∧ y2 < 2305843009213693951 :=
      ⟨_, rfl, Int.emod_nonneg _ (by decide), Int.emod_lt_of_pos _ (by decide)⟩
    rw [ey2]
    refine st_mulI (mulW64 (by omega) (by omega)) ?_
    walk_at "d"
    refine st_oI (divW (by decide) (by decide)) ?_
    walk_at "d"
    exact hq _ _ (Int.emod_nonneg _ (by omega)) (Int.emod_lt_of_pos _ hm) ⟨x, c, n + 1, gput_same, hx, hc0, hc1, by omega, by omega⟩ (But.put But.refl)
def N_law_one : List Str := ["_law_drawn", "_law_items"]
def t_law_one : TSD := (dRet (dOp xAny (dVar 1) (dCall sp_law_next (dCons (dVar 0) (dCons (dCB kLen (dCons (dVar 1) dNil)) dNil)))))
def sp_law_one : SpD := fun ds G Q _ => ∃ (p : Addr) (x : D) (xs : List D) (N : Nat), ds = [.ref p, x] ∧ Drw G p N ∧ N ≤ 2 ^ 40 ∧ 0 < xs.length ∧ xs.length < 2 ^ 60 ∧ (∀ G', But p G G' → Sq G' x xs) ∧
  ∀ d G', d ∈ xs → Drw G' p (N + 1) → But p G G' → Q d G'
theorem len_law_one : ∀ ds G Q E, sp_law_one ds G Q E → ds.length = 2 := by rintro ds G Q E ⟨p, m, N, xs, rfl, _⟩; rfl
theorem vc_law_one : ∀ ds G Q EX, sp_law_one ds G Q EX → t_law_one { nx := fun _ G' => Q .non G', rt := Q, ex := fun x _ G' => EX x G' } (startD N_law_one ds) G := by
  rintro ds G Q EX ⟨p, x, xs, N, rfl, hd, hN, h0, h1, hs, hq⟩
  show t_law_one _ [some (D.ref p), some x] _
  unfold t_law_one
  walk_at "d"
  refine st_len (hs _ But.refl) ?_
  walk_at "d"
  refine ⟨p, xs.length, N, rfl, hd, hN, by omega, by omega, fun r G' r0 r1 hd' hb => ?_⟩
  obtain ⟨j, rfl⟩ := Int.eq_ofNat_of_zero_le r0
  have hj : j < xs.length := by omega
  exact st_ix (hs _ hb) (atI_nat (List.getElem?_eq_getElem hj)) (hq _ _ (List.getElem_mem hj) hd' hb)

theorem st_nextq {G : HH} {Q : QD} {E : ED} {p : Addr} {m : Int} {N : Nat} (h : Drw G p N) (hN : N ≤ 2 ^ 40) (h0 : 0 < m) (h1 : m < 2 ^ 64) (k : ∀ (r : Nat) G', (r : Int) < m → Drw G' p (N + 1) → But p G G' → Q (.int (r : Int)) G') : sp_law_next [.ref p, .int m] G Q E :=
  ⟨p, m, N, rfl, h, hN, h0, h1, fun r G' r0 r1 hd hb => by
    obtain ⟨j, rfl⟩ := Int.eq_ofNat_of_zero_le r0
    exact k j G' r1 hd hb⟩
theorem st_oneL {G : HH} {Q : QD} {E : ED} {p : Addr} {xs : List D} {N : Nat} (h : Drw G p N) (hN : N ≤ 2 ^ 40) (h0 : 0 < xs.length ∧ xs.length < 2 ^ 60) (k : ∀ d G', d ∈ xs → Drw G' p (N + 1) → But p G G' → Q d G') : sp_law_one [.ref p, .lst xs] G Q E :=
  ⟨p, _, xs, N, rfl, h, hN, h0.1, h0.2, fun _ _ => .lst xs, k⟩
/-- a comprehension over a range whose elements are drawn -/
theorem lc_drw {σ : SD} {G : HH} {Q : QD} {J : Nat} {g : Tgt} {te : TED} {vs : List Nat} {p : Addr} {N : Nat} (K : Nat) (P : D → Prop) (hd : Drw G p N) (hl : J ≤ sizeLine)
    (he : ∀ (a : Nat), a < J → ∀ (G' : HH) (M : Nat), Drw G' p M → M + K ≤ N + K * J → (∀ b, b ≠ p → G b ≠ none → G' b = G b) → ∃ σ2, g.put (.int (a : Int)) (wipeD σ vs) = some σ2 ∧
      ∀ Q' : QD, (∀ d G'', P d → Drw G'' p (M + K) → But p G' G'' → Q' d G'') → te σ2 G' Q' (fun _ _ => False))
    (hq : ∀ ds G', ds.length = J → (∀ d ∈ ds, P d) → Drw G' p (N + K * J) → But p G G' → Q (.lst ds) G') : LcG true (rgItems 0 J) okT g dYes te vs σ G Q := by
  have e : rgItems 0 J = (List.range J).map fun a : Nat => D.int (a : Int) := by
    unfold rgItems
    refine List.map_congr_left fun a _ => ?_
    rw [Int.zero_add]
  rw [e]
  refine lc_dr (fun G M => Drw G p M) (fun e h => h.at e) (fun h => h.some) K P hd (fun _ _ => trivial) (by rw [List.length_range]; exact hl) (fun a ha G' M h1 h2 h3 => he a (List.mem_range.mp ha) G' M h1 (by rw [List.length_range] at h2; exact h2) h3) (fun ds G' h1 h2 h3 h4 => hq ds G' (by rw [List.length_range] at h1; exact h1) h2 (by rw [List.length_range] at h3; exact h3) h4)

/-! ### programs -/
abbrev t_law_draws : TSD := t_law_drawsP 29222 41 23
theorem vc_law_draws : ∀ ds G Q EX, sp_law_draws ds G Q EX → t_law_draws { nx := fun _ G' => Q .non G', rt := Q, ex := fun x _ G' => EX x G' } (startD N_law_draws ds) G := vc_law_drawsP 29222 41 23 (by decide) (by decide) (by decide)
structure Tm where
  co : Int
  ps : List Nat
structure Rw where
  rd : Bool
  ts : List Tm
structure Pg where
  n : Nat
  rows : List Rw
  outs : List Nat
abbrev dN (n : Nat) : D := .int (n : Int)
def Tm.d (t : Tm) : D := .tup [.int t.co, .tup (t.ps.map dN)]
def wd (b : Bool) : D := .str (if b then "round" else "exact")
def Rw.d (r : Rw) : D := .tup [wd r.rd, .tup (r.ts.map Tm.d)]
def Pg.d (g : Pg) : D := .tup [dN g.n, .tup (g.rows.map Rw.d), .tup (g.outs.map dN)]
/-- a row at place k: its terms reach back -/
def Rw.ok (k : Nat) (r : Rw) : Prop := r.ts.length ≤ 3 ∧ ∀ t ∈ r.ts, t.co.natAbs ≤ 7 ∧ t.ps.length ≤ 2 ∧ ∀ p ∈ t.ps, p < k
def rowsOk (n : Nat) (rows : List Rw) : Prop := rows.length ≤ 12 ∧ ∀ (i : Nat) r, rows[i]? = some r → Rw.ok (n + i) r
structure Pg.ok (g : Pg) : Prop where
  n : g.n ≤ 4
  rows : rowsOk g.n g.rows
  outs : g.outs.length ≤ 4 ∧ ∀ p ∈ g.outs, p < g.n + g.rows.length
/-! ### the depth -/
def mx (l : List Nat) : Nat := l.foldl max 0
def Rw.below (f : List Nat) (r : Rw) : Nat := mx ((r.ts.map fun t => t.ps.map fun p => f.getD p 0).flatten)
def b1 (b : Bool) : Nat := if b then 1 else 0
def foundOf (n : Nat) (rows : List Rw) : List Nat := rows.foldl (fun f r => f ++ [r.below f + b1 r.rd]) (List.replicate n 0)
def Pg.depth (g : Pg) : Nat := mx (g.outs.map fun p => (foundOf g.n g.rows).getD p 0)
theorem foundOf_len (n : Nat) (rows : List Rw) : (foundOf n rows).length = n + rows.length := by
  unfold foundOf
  have : ∀ (rows : List Rw) (f : List Nat), (rows.foldl (fun f r => f ++ [r.below f + b1 r.rd]) f).length = f.length + rows.length := by
    intro rows
    induction rows with
    | nil => intro f; rfl
    | cons r rs ih => intro f; rw [List.foldl_cons, ih, List.length_append, List.length_singleton, List.length_cons]; omega
  rw [this, List.length_replicate]
theorem foundOf_snoc (n : Nat) (rows : List Rw) (r : Rw) : foundOf n (rows ++ [r]) = foundOf n rows ++ [r.below (foundOf n rows) + b1 r.rd] := by
  unfold foundOf; rw [List.foldl_append]; rfl
def sp_depth : SpD := fun ds G Q _ => ∃ g : Pg, ds = [g.d] ∧ g.ok ∧ Q (dN g.depth) G
theorem len_depth : ∀ ds G Q E, sp_depth ds G Q E → ds.length = 1 := by rintro ds G Q E ⟨n, rfl, _⟩; rfl
theorem mx_snoc (l : List Nat) (a : Nat) : mx (l ++ [a]) = max (mx l) a := by unfold mx; rw [List.foldl_append]; rfl
theorem map_dN_snoc (l : List Nat) (x : Nat) : (l ++ [x]).map dN = l.map dN ++ [dN x] := by rw [List.map_append]; rfl
theorem cast_max (a b : Nat) : max (a : Int) (b : Int) = ((max a b : Nat) : Int) := by omega
theorem dN_rep (n : Nat) : (List.replicate n [D.int 0]).flatten = (List.replicate n 0).map dN := by
  rw [List.map_replicate]
  induction n with
  | zero => rfl
  | succ n ih => rw [List.replicate_succ, List.flatten_cons, ih, List.replicate_succ]; rfl
theorem map_dN_get {l : List Nat} {p : Nat} (h : p < l.length) : (l.map dN)[p]? = some (dN (l.getD p 0)) := by
  rw [List.getElem?_map, List.getElem?_eq_getElem h, List.getD_eq_getElem?_getD, List.getElem?_eq_getElem h]; rfl
theorem st_round {b : Bool} {G : HH} {Q : QD} (h : Q (.bl b) G) : eAny false (wd b) (.str "round") G Q := by
  cases b
  · refine st_eqS ?_
    rw [show decide ((if false = true then ("round" : Str) else "exact") = "round") = false by decide]
    exact h
  · refine st_eqS ?_
    rw [show decide ((if true = true then ("round" : Str) else "exact") = "round") = true by decide]
    exact h
theorem b1_int (b : Bool) : (if b = true then (1 : Int) else 0) = (b1 b : Int) := by cases b <;> rfl
def N_depth : List Str := ["program", "found", "best", "place", "inputs", "rows", "outs", "word", "terms", "below", "coefficient", "places"]
def t_depth : TSD := (dSeq (dAsg (dVar 0) (gdTup 3 (gdCons (gdName 4) (gdCons (gdName 5) (gdCons (gdName 6) gdNil)))))
  (dSeq (dAsg (dOp mRepM (dLst (dCons (dC (.int 0)) dNil)) (dVar 4)) (gdName 1))
  (dSeq (dFor (iTupD (dVar 5)) (gdTup 2 (gdCons (gdName 7) (gdCons (gdName 8) gdNil)))
  (dSeq (dAsg (dC (.int 0)) (gdName 9))
  (dSeq (dFor (iTupD (dVar 8)) (gdTup 2 (gdCons (gdName 10) (gdCons (gdName 11) gdNil)))
  (dFor (iTupD (dVar 11)) (gdName 3)
  (dAsg (dCB kMax2 (dCons (dVar 9) (dCons (dOp xAny (dVar 1) (dVar 3)) dNil))) (gdName 9))))
  (dDrop (dBM tyL mAppend (dVar 1) (dCons (dOp aAny (dVar 9) (dCB kInt (dCons (dOp (eAny false) (dVar 7) (dC (.str "round"))) dNil))) dNil))))))
  (dSeq (dAsg (dC (.int 0)) (gdName 2))
  (dSeq (dFor (iTupD (dVar 6)) (gdName 3)
  (dAsg (dCB kMax2 (dCons (dVar 2) (dCons (dOp xAny (dVar 1) (dVar 3)) dNil))) (gdName 2)))
  (dFrz 1 (dRet (dVar 2))))))))
theorem vc_depth : ∀ ds G Q EX, sp_depth ds G Q EX → t_depth { nx := fun _ G' => Q .non G', rt := Q, ex := fun x _ G' => EX x G' } (startD N_depth ds) G := by
  rintro ds G Q EX ⟨⟨n, rows, outs⟩, rfl, ⟨hn, ⟨hr1, hr2⟩, ho1, ho2⟩, hq⟩
  show t_depth _ [some (Pg.d ⟨n, rows, outs⟩), none, none, none, none, none, none, none, none, none, none, none] _
  unfold t_depth
  show dSeq _ _ _ [some (D.tup [dN n, .tup (rows.map Rw.d), .tup (outs.map dN)]), none, none, none, none, none, none, none, none, none, none, none] _
  walk_at "d"
  have hn : n ≤ 4 := hn
  have hr1 : rows.length ≤ 12 := hr1
  refine st_repM (Ls.lst _) ⟨by omega, by omega⟩ (by rw [sizeLine_eq]; simp; omega) fun p hp => ?_
  rw [show ((n : Int)).toNat = n from rfl, dN_rep]
  walk_at "d"
  refine for_map (fun pre σ G' => ∃ v3 v7 v8 v9 v10 v11, σ = [some (D.tup [dN n, .tup (rows.map Rw.d), .tup (outs.map dN)]), some (.ref p), none, v3, some (dN n), some (.tup (rows.map Rw.d)), some (.tup (outs.map dN)), v7, v8, v9, v10, v11] ∧ G' = gput G p (.lst ((foundOf n pre).map dN))) (fun _ _ _ _ => trivial) ⟨_, _, _, _, _, _, rfl, rfl⟩ ?_ ?_
  · rintro pre r post σ G' e ⟨v3, v7, v8, v9, v10, v11, rfl, rfl⟩
    have hl : pre.length < rows.length := by
      have := congrArg List.length e
      simp at this
      omega
    have hr : Rw.ok (n + pre.length) r := hr2 pre.length r (by rw [e]; simp)
    have hF : (foundOf n pre).length = n + pre.length := foundOf_len n pre
    show gdTup 2 _ (D.tup [wd r.rd, .tup (r.ts.map Tm.d)]) _ _ _
    walk_at "d"
    refine for_map (fun pre2 σ G' => ∃ v3 v10 v11, σ = [some (D.tup [dN n, .tup (rows.map Rw.d), .tup (outs.map dN)]), some (.ref p), none, v3, some (dN n), some (.tup (rows.map Rw.d)), some (.tup (outs.map dN)), some (wd r.rd), some (.tup (r.ts.map Tm.d)), some (dN (mx ((pre2.map fun t => t.ps.map fun p => (foundOf n pre).getD p 0).flatten))), v10, v11] ∧ G' = gput G p (.lst ((foundOf n pre).map dN))) (fun _ _ _ _ => trivial) ⟨_, _, _, rfl, rfl⟩ ?_ ?_
    · rintro pre2 t post2 σ G' e2 ⟨v3, v10, v11, rfl, rfl⟩
      obtain ⟨_, _, ht⟩ := hr.2 t (by rw [e2]; simp)
      show gdTup 2 _ (D.tup [.int t.co, .tup (t.ps.map dN)]) _ _ _
      walk_at "d"
      generalize hX : (pre2.map fun t => t.ps.map fun p => (foundOf n pre).getD p 0).flatten = X
      refine for_map (fun pre3 σ G' => ∃ v3, σ = [some (D.tup [dN n, .tup (rows.map Rw.d), .tup (outs.map dN)]), some (.ref p), none, v3, some (dN n), some (.tup (rows.map Rw.d)), some (.tup (outs.map dN)), some (wd r.rd), some (.tup (r.ts.map Tm.d)), some (dN (mx (X ++ pre3.map fun p => (foundOf n pre).getD p 0))), some (.int t.co), some (.tup (t.ps.map dN))] ∧ G' = gput G p (.lst ((foundOf n pre).map dN))) (fun _ _ _ _ => trivial) ⟨_, by rw [List.map_nil, List.append_nil], rfl⟩ ?_ ?_
      · rintro pre3 z post3 σ G' e3 ⟨v3, rfl, rfl⟩
        have hz : z < n + pre.length := ht z (by rw [e3]; simp)
        walk_at "d"
        refine st_ix (Sq.ref gput_same) (atI_nat (map_dN_get (by rw [hF]; exact hz))) ?_
        refine st_nil ?_
        refine st_max2 ?_
        rw [cast_max]
        walk_at "d"
        rw [List.map_append, ← List.append_assoc, List.map_cons, List.map_nil, mx_snoc]
        exact ⟨_, rfl, rfl⟩
      · rintro σ G' ⟨v3, rfl, rfl⟩
        rw [List.map_append, List.flatten_append, hX, List.map_cons, List.map_nil, List.flatten_cons, List.flatten_nil, List.append_nil]
        exact ⟨_, _, _, rfl, rfl⟩
    · rintro σ G' ⟨v3, v10, v11, rfl, rfl⟩
      walk_at "d"
      refine st_round ?_
      walk_at "d"
      rw [b1_int]
      rw [gput_gput, foundOf_snoc, map_dN_snoc]
      exact ⟨_, _, _, _, _, _, rfl, rfl⟩
  · rintro σ G' ⟨v3, v7, v8, v9, v10, v11, rfl, rfl⟩
    walk_at "d"
    refine for_map (fun pre σ G' => ∃ v3, σ = [some (D.tup [dN n, .tup (rows.map Rw.d), .tup (outs.map dN)]), some (.ref p), some (dN (mx (pre.map fun p => (foundOf n rows).getD p 0))), v3, some (dN n), some (.tup (rows.map Rw.d)), some (.tup (outs.map dN)), v7, v8, v9, v10, v11] ∧ G' = gput G p (.lst ((foundOf n rows).map dN))) (fun _ _ _ _ => trivial) ⟨_, rfl, rfl⟩ ?_ ?_
    · rintro pre z post σ G' e ⟨v3, rfl, rfl⟩
      have hz : z < (foundOf n rows).length := by rw [foundOf_len]; exact ho2 z (by show z ∈ outs; rw [e]; simp)
      walk_at "d"
      refine st_ix (Sq.ref gput_same) (atI_nat (map_dN_get hz)) ?_
      refine st_nil ?_
      refine st_max2 ?_
      rw [cast_max]
      walk_at "d"
      rw [List.map_append, List.map_cons, List.map_nil, mx_snoc]
      exact ⟨_, rfl, rfl⟩
    · rintro σ G' ⟨v3, rfl, rfl⟩
      walk_at "d"
      rw [gdel_gput hp]
      exact hq
/-! ### drawn programs -/
theorem nats_of {k : Nat} : ∀ {ds : List D}, (∀ d ∈ ds, ∃ z : Nat, d = dN z ∧ z < k) → ∃ zs : List Nat, ds = zs.map dN ∧ zs.length = ds.length ∧ ∀ z ∈ zs, z < k
  | [], _ => ⟨[], rfl, rfl, by simp⟩
  | d :: ds, h => by
    obtain ⟨z, hz, lz⟩ := h d (by simp)
    obtain ⟨zs, e, l, hs⟩ := nats_of (ds := ds) fun d hd => h d (by simp [hd])
    refine ⟨z :: zs, by rw [hz, e]; rfl, by simp [l], ?_⟩
    intro y hy
    rcases List.mem_cons.mp hy with rfl | hy
    · exact lz
    · exact hs y hy
theorem cut_one (zs : List Nat) : ∃ ws : List Nat, dcut (zs.map dN) none (some 1) = ws.map dN ∧ ws.length ≤ 1 ∧ ∀ z ∈ ws, z ∈ zs := by
  rw [cutD_map]
  refine ⟨_, rfl, ?_, fun z hz => List.mem_of_mem_drop (List.mem_of_mem_take hz)⟩
  rw [List.length_take]
  have e : HT.sIx zs.length zs.length (some 1) = min 1 zs.length := HT.sIx_nat _ _ 1
  rw [e]
  omega
def sp_law_program : SpD := fun ds G Q _ => ∃ (p : Addr) (N : Nat), ds = [.ref p] ∧ Drw G p N ∧ N ≤ 2 ^ 39 ∧ ∀ (g : Pg) G', g.ok → Drw G' p (N + 200) → Q g.d G'
theorem len_law_program : ∀ ds G Q E, sp_law_program ds G Q E → ds.length = 1 := by rintro ds G Q E ⟨p, N, rfl, _⟩; rfl
def N_law_program : List Str := ["_law_drawn", "_law_number", "_law_places", "_law_inputs", "_law_rows", "_law_is_chain", "_law_k", "_law_terms", "_law_some", "_law_j"]
def t_law_program : TSD := (dSeq (dPar3 3 4 5 (dCons (dCall sp_law_next (dCons (dVar 0) (dCons (dC (.int 5)) dNil))) (dCons (dLstM dNil) (dCons (dOp (eAny false) (dCall sp_law_next (dCons (dVar 0) (dCons (dC (.int 2)) dNil))) (dC (.int 0))) dNil))))
  (dSeq (dFor (iRngD1 (dCons (dCall sp_law_one (dCons (dVar 0) (dCons (dLst (dCons (dC (.int 0)) (dCons (dC (.int 1)) (dCons (dC (.int 3)) (dCons (dC (.int 7)) (dCons (dC (.int 12)) dNil)))))) dNil))) dNil)) (gdName 1)
  (dSeq (dAsg (dTup (dCons (dOp aAny (dVar 3) (dVar 1)) (dCons (dLstM dNil) dNil))) (gdTup 2 (gdCons (gdName 2) (gdCons (gdName 7) gdNil))))
  (dSeq (dFor (iRngD1 (dCons (dCall sp_law_next (dCons (dVar 0) (dCons (dC (.int 4)) dNil))) dNil)) (gdName 6)
  (dSeq (dAsg (dLc true (iRngD1 (dCons (dOp mAny (dCall sp_law_next (dCons (dVar 0) (dCons (dC (.int 3)) dNil))) (dCB kInt (dCons (dOp cGtI (dVar 2) (dC (.int 0))) dNil))) dNil)) (.nm 9) dYes (dCall sp_law_next (dCons (dVar 0) (dCons (dVar 2) dNil))) [9]) (gdName 8))
  (dSeq (dIfS (dAnd (dTru (dVar 5)) (dAnd (dTest (dOp cGtI (dVar 1) (dC (.int 0)))) (dTest (dOp (eAny false) (dVar 6) (dC (.int 0))))))
  (dAsg (dOp aAny (dSl (dVar 8) dNoPart (dPart (dC (.int 1)))) (dLst (dCons (dOp aSub (dVar 2) (dC (.int 1))) dNil))) (gdName 8))
  dNext)
  (dDrop (dBM tyL mAppend (dVar 7) (dCons (dTup (dCons (dCall sp_law_one (dCons (dVar 0) (dCons (dLst (dCons (dC (.int 1)) (dCons (dUn uNeg (dC (.int 1))) (dCons (dC (.int 0)) (dCons (dC (.int 7)) (dCons (dC (.int 0)) dNil)))))) dNil))) (dCons (dCB kTuple (dCons (dVar 8) dNil)) dNil))) dNil))))))
  (dDrop (dBM tyL mAppend (dVar 4) (dCons (dTup (dCons (dCall sp_law_one (dCons (dVar 0) (dCons (dLst (dCons (dC (.str "round")) (dCons (dC (.str "exact")) dNil))) dNil))) (dCons (dCB kTuple (dCons (dVar 7) dNil)) dNil))) dNil))))))
  (dSeq (dIfS (dTest (dOp (eAny false) (dOp aAny (dVar 3) (dCB kLen (dCons (dVar 4) dNil))) (dC (.int 0))))
  (dAsg (dLstM (dCons (dTup (dCons (dC (.str "round")) (dCons (dTup dNil) dNil))) dNil)) (gdName 4))
  dNext)
  (dSeq (dAsg (dOp aAny (dVar 3) (dCB kLen (dCons (dVar 4) dNil))) (gdName 2))
  (dRet (dTup (dCons (dVar 3) (dCons (dCB kTuple (dCons (dVar 4) dNil)) (dCons (dCB kTuple (dCons (dLc true (iRngD1 (dCons (dOp aAny (dC (.int 1)) (dCall sp_law_next (dCons (dVar 0) (dCons (dC (.int 4)) dNil)))) dNil)) (.nm 6) dYes (dCall sp_law_next (dCons (dVar 0) (dCons (dVar 2) dNil))) [6]) dNil)) dNil)))))))))

theorem rowsOk.snoc {n : Nat} {rows : List Rw} {r : Rw} (h : rowsOk n rows) (hl : rows.length < 12) (hr : Rw.ok (n + rows.length) r) : rowsOk n (rows ++ [r]) := by
  refine ⟨by rw [List.length_append, List.length_singleton]; omega, fun i r' e => ?_⟩
  by_cases hi : i < rows.length
  · rw [List.getElem?_append_left hi] at e
    exact h.2 i r' e
  · rw [List.getElem?_append_right (by omega)] at e
    have hi2 : i - rows.length = 0 := by
      have := (List.getElem?_eq_some_iff.mp e).1
      simp at this
      omega
    rw [hi2] at e
    cases e
    have : i = rows.length := by omega
    rw [this]; exact hr
theorem vc_law_program : ∀ ds G Q EX, sp_law_program ds G Q EX → t_law_program { nx := fun _ G' => Q .non G', rt := Q, ex := fun x _ G' => EX x G' } (startD N_law_program ds) G := by
  rintro ds G Q EX ⟨p, N, rfl, hD, hN, hq⟩
  show t_law_program _ [some (.ref p), none, none, none, none, none, none, none, none, none] _
  unfold t_law_program
  walk_at "d"
  refine st_nextq hD (by omega) (by decide) (by decide) fun n G1 hn hD1 hB1 => ?_
  walk_at "d"
  intro q hq1
  have hpq := hD1.ne hq1
  walk_at "d"
  refine st_nextq (hD1.put hpq) (by omega) (by decide) (by decide) fun ch G2 _ hD2 hB2 => ?_
  have h2q : G2 q = some (.lst []) := (hB2 q hpq.symm).trans gput_same
  walk_at "d"
  generalize decide ((ch : Int) = 0) = chain
  refine st_oneL hD2 (by omega) (by simp) fun cd G3 hcd hD3 hB3 => ?_
  have h3q := (hB3 q hpq.symm).trans h2q
  obtain ⟨K, rfl, hK⟩ : ∃ K : Nat, cd = dN K ∧ K ≤ 12 := by
    simp only [List.mem_cons, List.mem_nil_iff, or_false] at hcd
    rcases hcd with rfl | rfl | rfl | rfl | rfl
    · exact ⟨0, rfl, by decide⟩
    · exact ⟨1, rfl, by decide⟩
    · exact ⟨3, rfl, by decide⟩
    · exact ⟨7, rfl, by decide⟩
    · exact ⟨12, rfl, by decide⟩
  walk_at "d"
  refine for_rng0 (n := K) (fun i σ G' => ∃ v1 v2 v6 v7 v8 rows, σ = [some (.ref p), v1, v2, some (dN n), some (.ref q), some (.bl chain), v6, v7, v8, none] ∧ Drw G' p (N + 3 + 14 * i) ∧ G' q = some (.lst (rows.map Rw.d)) ∧ rowsOk n rows ∧ rows.length = i) ⟨_, _, _, _, _, [], rfl, hD3, h3q, ⟨by simp, by simp⟩, rfl⟩ ?_ ?_
  · rintro i σ G' hi ⟨v1, v2, v6, v7, v8, rows, rfl, hD', hq', hok, hlen⟩
    walk_at "d"
    intro u hu
    have hpu := hD'.ne hu
    have hqu : q ≠ u := fun z => by rw [z, hu] at hq'; cases hq'
    walk_at "d"
    refine st_nextq (hD'.put hpu) (by omega) (by decide) (by decide) fun T G1 hT hDa hBa => ?_
    have h1q := (hBa q hpq.symm).trans ((gput_ne hqu).trans hq')
    have h1u := (hBa u hpu.symm).trans (gput_same (G := G'))
    walk_at "d"
    refine for_rng0 (n := T) (fun k σ G' => ∃ v6 v8 ts, σ = [some (.ref p), some (dN i), some (.int ((n : Int) + (i : Int))), some (dN n), some (.ref q), some (.bl chain), v6, some (.ref u), v8, none] ∧ Drw G' p (N + 3 + 14 * i + 1 + 4 * k) ∧ G' q = some (.lst (rows.map Rw.d)) ∧ G' u = some (.lst (ts.map Tm.d)) ∧ ts.length = k ∧ ∀ t ∈ ts, t.co.natAbs ≤ 7 ∧ t.ps.length ≤ 2 ∧ ∀ p ∈ t.ps, p < n + i) ⟨_, _, [], rfl, hDa, h1q, h1u, rfl, by simp⟩ ?_ ?_
    · rintro k σ G2 hk ⟨v6, v8, ts, rfl, hDk, h2q, h2u, htl, hts⟩
      walk_at "d"
      refine st_nextq hDk (by omega) (by decide) (by decide) fun J G3 hJ hDj hBj => ?_
      walk_at "d"
      obtain ⟨J2, eJ, hJ2, hJ3⟩ : ∃ J2 : Nat, (J : Int) * (if decide (0 < (n : Int) + (i : Int)) = true then 1 else 0) = (J2 : Int) ∧ J2 ≤ 2 ∧ (0 < J2 → 0 < n + i) := by
        by_cases h : 0 < (n : Int) + (i : Int)
        · rw [decide_eq_true h, if_pos rfl]; exact ⟨J, by omega, by omega, fun _ => by omega⟩
        · rw [decide_eq_false h, if_neg Bool.false_ne_true]; exact ⟨0, by omega, by omega, fun h => by omega⟩
      refine st_mulI (mulW64 (by omega) (by split <;> decide)) ?_
      rw [eJ]
      walk_at "d"
      refine lc_drw (J := J2) 1 (fun d => ∃ z : Nat, d = dN z ∧ z < n + i) hDj (by rw [sizeLine_eq]; omega) (fun a ha G4 M hD4 hM hF => ⟨_, rfl, fun Q' qq => ?_⟩) fun ds G4 hds hP hD4 hB4 => ?_
      · show dCall sp_law_next (dCons (dVar 0) (dCons (dVar 2) dNil)) [some (.ref p), some (dN i), some (.int ((n : Int) + (i : Int))), some (dN n), some (.ref q), some (.bl chain), some (dN k), some (.ref u), v8, some (.int (a : Int))] _ _ _
        have := hJ3 (by omega)
        walk_at "d"
        refine st_nextq hD4 (by omega) (by omega) (by omega) fun r G5 hr hD5 hB5 => ?_
        exact qq _ _ ⟨r, rfl, by omega⟩ hD5 hB5
      · obtain ⟨zs, rfl, hzl, hzs⟩ := nats_of hP
        have h4q := (hB4 q hpq.symm).trans ((hBj q hpq.symm).trans h2q)
        have h4u := (hB4 u hpu.symm).trans ((hBj u hpu.symm).trans h2u)
        walk_at "d"
        refine st_andP (k := decide (0 < (i : Int)) && decide ((k : Int) = 0)) (fun _ QT qq => ?_) ?_
        · walk_at "d"
          refine st_andP (k := decide ((k : Int) = 0)) (fun _ QT q2 => ?_) qq
          walk_at "d"
          exact q2
        generalize hB : (chain && (decide (0 < (i : Int)) && decide ((k : Int) = 0))) = B
        refine st_iteB (fun hb => ?_) (fun hb => ?_)
        · have hi0 : 0 < i := by
            rw [hb, Bool.and_eq_true, Bool.and_eq_true] at hB
            have := of_decide_eq_true hB.2.1
            omega
          walk_at "d"
          obtain ⟨ws, e1, e2, e3⟩ := cut_one zs
          rw [e1]
          refine st_addL (Ls.lst _) (Ls.lst _) (by rw [List.length_map, sizeLine_eq]; simp; omega) ?_
          obtain ⟨ys, ey, hy1, hy2⟩ : ∃ ys : List Nat, ws.map dN ++ [.int ((n : Int) + (i : Int) - 1)] = ys.map dN ∧ ys.length ≤ 2 ∧ ∀ z ∈ ys, z < n + i := by
            refine ⟨ws ++ [n + i - 1], ?_, by simp; omega, ?_⟩
            · rw [map_dN_snoc]
              congr 3
              omega
            · intro z hz
              rcases List.mem_append.mp hz with hz | hz
              · exact hzs z (e3 z hz)
              · rw [List.mem_singleton.mp hz]; omega
          rw [ey]
          walk_at "d"
          refine st_oneL hD4 (by omega) (by simp) fun cd G5 hcd hD5 hB5 => ?_
          obtain ⟨co, rfl, hco⟩ : ∃ co : Int, cd = .int co ∧ co.natAbs ≤ 7 := by
            simp only [List.mem_cons, List.mem_nil_iff, or_false] at hcd
            rcases hcd with rfl | rfl | rfl | rfl | rfl
            · exact ⟨1, rfl, by decide⟩
            · exact ⟨-1, rfl, by decide⟩
            · exact ⟨0, rfl, by decide⟩
            · exact ⟨7, rfl, by decide⟩
            · exact ⟨0, rfl, by decide⟩
          have h5q := (hB5 q hpq.symm).trans h4q
          have h5u := (hB5 u hpu.symm).trans h4u
          walk_at "d"
          refine ⟨_, _, ts ++ [⟨co, ys⟩], rfl, (hD5.put hpu).mono (by omega), (gput_ne hqu).trans h5q, ?_, by simp [htl], ?_⟩
          · rw [gput_same, List.map_append]; rfl
          · intro t ht
            rcases List.mem_append.mp ht with ht | ht
            · exact hts t ht
            · rw [List.mem_singleton.mp ht]; exact ⟨hco, hy1, hy2⟩
        · obtain ⟨ys, ey, hy1, hy2⟩ : ∃ ys : List Nat, zs.map dN = ys.map dN ∧ ys.length ≤ 2 ∧ ∀ z ∈ ys, z < n + i := ⟨zs, rfl, by rw [List.length_map] at hds; omega, hzs⟩
          rw [ey]
          walk_at "d"
          refine st_oneL hD4 (by omega) (by simp) fun cd G5 hcd hD5 hB5 => ?_
          obtain ⟨co, rfl, hco⟩ : ∃ co : Int, cd = .int co ∧ co.natAbs ≤ 7 := by
            simp only [List.mem_cons, List.mem_nil_iff, or_false] at hcd
            rcases hcd with rfl | rfl | rfl | rfl | rfl
            · exact ⟨1, rfl, by decide⟩
            · exact ⟨-1, rfl, by decide⟩
            · exact ⟨0, rfl, by decide⟩
            · exact ⟨7, rfl, by decide⟩
            · exact ⟨0, rfl, by decide⟩
          have h5q := (hB5 q hpq.symm).trans h4q
          have h5u := (hB5 u hpu.symm).trans h4u
          walk_at "d"
          refine ⟨_, _, ts ++ [⟨co, ys⟩], rfl, (hD5.put hpu).mono (by omega), (gput_ne hqu).trans h5q, ?_, by simp [htl], ?_⟩
          · rw [gput_same, List.map_append]; rfl
          · intro t ht
            rcases List.mem_append.mp ht with ht | ht
            · exact hts t ht
            · rw [List.mem_singleton.mp ht]; exact ⟨hco, hy1, hy2⟩
    · rintro σ G2 ⟨v6, v8, ts, rfl, hDk, h2q, h2u, htl, hts⟩
      walk_at "d"
      refine st_oneL hDk (by omega) (by simp) fun cd G5 hcd hD5 hB5 => ?_
      obtain ⟨rd, rfl⟩ : ∃ rd : Bool, cd = wd rd := by
        simp only [List.mem_cons, List.mem_nil_iff, or_false] at hcd
        rcases hcd with rfl | rfl
        · exact ⟨true, rfl⟩
        · exact ⟨false, rfl⟩
      have h5q := (hB5 q hpq.symm).trans h2q
      have h5u := (hB5 u hpu.symm).trans h2u
      walk_at "d"
      refine ⟨_, _, _, _, _, rows ++ [⟨rd, ts⟩], rfl, (hD5.put hpq).mono (by omega), ?_, hok.snoc (by omega) ⟨by show ts.length ≤ 3; omega, by rw [hlen]; exact hts⟩, by simp [hlen]⟩
      rw [gput_same, List.map_append]; rfl
  · rintro σ G' ⟨v1, v2, v6, v7, v8, rows, rfl, hD', hq', hok, hlen⟩
    walk_at "d"
    rw [List.length_map]
    refine st_ite (fun h0 => ?_) (fun h0 => ?_)
    · walk_at "d"
      intro q2 hq2
      have hpq2 := hD'.ne hq2
      obtain ⟨rows2, er, hok2, hr0⟩ : ∃ rows2 : List Rw, [D.tup [D.str "round", D.tup []]] = rows2.map Rw.d ∧ rowsOk n rows2 ∧ 0 < n + rows2.length := ⟨[⟨true, []⟩], rfl, ⟨by decide, fun i r e => by
        have hi : i < 1 := (List.getElem?_eq_some_iff.mp e).1
        obtain rfl : i = 0 := by omega
        cases e
        exact ⟨by decide, by simp⟩⟩, by simp⟩
      have h2q : (gput G' q2 (.lst [D.tup [D.str "round", D.tup []]])) q2 = some (.lst (rows2.map Rw.d)) := gput_same.trans (by rw [er])
      have hD2 := hD'.put (o := .lst [D.tup [D.str "round", D.tup []]]) hpq2
      generalize gput G' q2 (.lst [D.tup [D.str "round", D.tup []]]) = G2 at h2q hD2
      walk_at "d"
      refine st_nextq hD2 (by omega) (by decide) (by decide) fun O G3 hO hD3 hB3 => ?_
      have h3q := (hB3 q2 hpq2.symm).trans h2q
      walk_at "d"
      rw [show (1 + (O : Int)).toNat = 1 + O by omega]
      refine lc_drw (J := 1 + O) 1 (fun d => ∃ z : Nat, d = dN z ∧ z < n + rows2.length) hD3 (by rw [sizeLine_eq]; omega) (fun a ha G4 M hD4 hM hF => ⟨_, rfl, fun Q' qq => ?_⟩) fun ds G4 hds hP hD4 hB4 => ?_
      · show dCall sp_law_next (dCons (dVar 0) (dCons (dVar 2) dNil)) [some (.ref p), v1, some (.int ((n : Int) + ((rows2.map Rw.d).length : Int))), some (dN n), some (.ref q2), some (.bl chain), some (.int (a : Int)), v7, v8, none] _ _ _
        rw [List.length_map]
        have h12 := hok2.1
        walk_at "d"
        refine st_nextq hD4 (by omega) (by omega) (by omega) fun r G5 hr hD5 hB5 => ?_
        exact qq _ _ ⟨r, rfl, by omega⟩ hD5 hB5
      · obtain ⟨zs, rfl, hzl, hzs⟩ := nats_of hP
        rw [List.length_map] at hds
        walk_at "d"
        exact hq ⟨n, rows2, zs⟩ _ ⟨by show n ≤ 4; omega, hok2, by show zs.length ≤ 4; omega, hzs⟩ (hD4.mono (by omega))
    · obtain ⟨rows2, q2, G2, rfl, rfl, rfl⟩ : ∃ rows2 q2 G2, rows2 = rows ∧ q2 = q ∧ G2 = G' := ⟨_, _, _, rfl, rfl, rfl⟩
      have hpq2 := hpq
      have h2q := hq'
      have hok2 := hok
      have hD2 := hD'
      have hr0 : 0 < n + rows2.length := by omega
      walk_at "d"
      refine st_nextq hD2 (by omega) (by decide) (by decide) fun O G3 hO hD3 hB3 => ?_
      have h3q := (hB3 q2 hpq2.symm).trans h2q
      walk_at "d"
      rw [show (1 + (O : Int)).toNat = 1 + O by omega]
      refine lc_drw (J := 1 + O) 1 (fun d => ∃ z : Nat, d = dN z ∧ z < n + rows2.length) hD3 (by rw [sizeLine_eq]; omega) (fun a ha G4 M hD4 hM hF => ⟨_, rfl, fun Q' qq => ?_⟩) fun ds G4 hds hP hD4 hB4 => ?_
      · show dCall sp_law_next (dCons (dVar 0) (dCons (dVar 2) dNil)) [some (.ref p), v1, some (.int ((n : Int) + ((rows2.map Rw.d).length : Int))), some (dN n), some (.ref q2), some (.bl chain), some (.int (a : Int)), v7, v8, none] _ _ _
        rw [List.length_map]
        have h12 := hok2.1
        walk_at "d"
        refine st_nextq hD4 (by omega) (by omega) (by omega) fun r G5 hr hD5 hB5 => ?_
        exact qq _ _ ⟨r, rfl, by omega⟩ hD5 hB5
      · obtain ⟨zs, rfl, hzl, hzs⟩ := nats_of hP
        rw [List.length_map] at hds
        walk_at "d"
        exact hq ⟨n, rows2, zs⟩ _ ⟨by show n ≤ 4; omega, hok2, by show zs.length ≤ 4; omega, hzs⟩ (hD4.mono (by omega))
/-! ### the walk over all chains -/
theorem getD_left {l m : List Nat} {p : Nat} (h : p < l.length) : (l ++ m).getD p 0 = l.getD p 0 := by
  rw [List.getD_eq_getElem?_getD, List.getElem?_append_left h, ← List.getD_eq_getElem?_getD]
theorem getD_right {l m : List Nat} {p : Nat} (h : l.length ≤ p) : (l ++ m).getD p 0 = m.getD (p - l.length) 0 := by
  rw [List.getD_eq_getElem?_getD, List.getElem?_append_right h, ← List.getD_eq_getElem?_getD]
theorem le_mx : ∀ {l : List Nat} {x : Nat}, x ∈ l → x ≤ mx l := by
  intro l
  have : ∀ (l : List Nat) (a x : Nat), (x ∈ l ∨ x ≤ a) → x ≤ l.foldl max a := by
    intro l
    induction l with
    | nil => intro a x h; rcases h with h | h; · cases h
             · exact h
    | cons b l ih =>
      intro a x h
      rw [List.foldl_cons]
      refine ih _ _ ?_
      rcases h with h | h
      · rcases List.mem_cons.mp h with rfl | h
        · exact .inr (by omega)
        · exact .inl h
      · exact .inr (by omega)
  intro x h
  exact this l 0 x (.inl h)
theorem mx_mem : ∀ l : List Nat, mx l = 0 ∨ mx l ∈ l := by
  have : ∀ (l : List Nat) (a : Nat), l.foldl max a = a ∨ l.foldl max a ∈ l := by
    intro l
    induction l with
    | nil => intro a; exact .inl rfl
    | cons b l ih =>
      intro a
      rw [List.foldl_cons]
      rcases ih (max a b) with h | h
      · rw [h]
        by_cases hab : a ≤ b
        · right; rw [show max a b = b by omega]; simp
        · left; omega
      · exact .inr (by simp [h])
  intro l
  exact this l 0
def kids (r : Rw) : List Nat := (r.ts.map Tm.ps).flatten
theorem below_kids (f : List Nat) (r : Rw) : r.below f = mx ((kids r).map fun p => f.getD p 0) := by
  unfold Rw.below kids
  rw [List.map_flatten, List.map_map]
  rfl
def rowAt (n : Nat) (rows : List Rw) (p : Nat) : Rw := rows.getD (p - n) ⟨false, []⟩
section
variable {n : Nat} {rows : List Rw}
theorem fd_prefix : ∀ (pre post : List Rw) (p : Nat), p < n + pre.length → (foundOf n (pre ++ post)).getD p 0 = (foundOf n pre).getD p 0 := by
  intro pre post
  induction post generalizing pre with
  | nil => intro p _; rw [List.append_nil]
  | cons r post ih =>
    intro p hp
    have := ih (pre ++ [r]) p (by simp; omega)
    rw [List.append_assoc] at this
    rw [show r :: post = [r] ++ post from rfl, this, foundOf_snoc, getD_left (by rw [foundOf_len]; exact hp)]
theorem fd_in {p : Nat} (hp : p < n) : (foundOf n rows).getD p 0 = 0 := by
  have := fd_prefix (n := n) [] rows p (by simpa using hp)
  rw [List.nil_append] at this
  rw [this]
  show (List.replicate n 0).getD p 0 = 0
  rw [List.getD_eq_getElem?_getD, List.getElem?_replicate]
  split <;> rfl
theorem fd_row (hok : rowsOk n rows) {p : Nat} (h1 : n ≤ p) (h2 : p < n + rows.length) : (foundOf n rows).getD p 0 = mx ((kids (rowAt n rows p)).map fun q => (foundOf n rows).getD q 0) + b1 (rowAt n rows p).rd ∧ (kids (rowAt n rows p)).length ≤ 6 ∧ ∀ q ∈ kids (rowAt n rows p), q < p := by
  obtain ⟨i, rfl⟩ : ∃ i, p = n + i := ⟨p - n, by omega⟩
  have hi : i < rows.length := by omega
  have e : rowAt n rows (n + i) = rows[i] := by
    unfold rowAt
    rw [show n + i - n = i by omega, List.getD_eq_getElem?_getD, List.getElem?_eq_getElem hi]; rfl
  rw [e]
  have hr := hok.2 i rows[i] (List.getElem?_eq_getElem hi)
  have hk : ∀ q ∈ kids rows[i], q < n + i := by
    intro q hq
    unfold kids at hq
    obtain ⟨l, hl, hq⟩ := List.mem_flatten.mp hq
    obtain ⟨t, ht, rfl⟩ := List.mem_map.mp hl
    exact (hr.2 t ht).2.2 q hq
  have hs : rows = rows.take i ++ rows[i] :: rows.drop (i + 1) := by
    rw [List.getElem_cons_drop, List.take_append_drop]
  have hlt : (rows.take i).length = i := by rw [List.length_take]; omega
  refine ⟨?_, ?_, hk⟩
  · have e1 : (foundOf n rows).getD (n + i) 0 = (rows[i]).below (foundOf n (rows.take i)) + b1 (rows[i]).rd := by
      have a1 := fd_prefix (n := n) (rows.take i ++ [rows[i]]) (rows.drop (i + 1)) (n + i) (by simp; omega)
      rw [List.append_assoc, show [rows[i]] ++ rows.drop (i + 1) = rows[i] :: rows.drop (i + 1) from rfl, ← hs] at a1
      rw [a1, foundOf_snoc, getD_right (by rw [foundOf_len]; omega), foundOf_len, hlt, show n + i - (n + i) = 0 by omega]
      rfl
    rw [e1, below_kids]
    congr 2
    refine List.map_congr_left fun q hq => ?_
    have a2 := fd_prefix (n := n) (rows.take i) (rows[i] :: rows.drop (i + 1)) q (by rw [hlt]; exact hk q hq)
    rw [← hs] at a2
    exact a2.symm
  · have : ∀ ts : List Tm, (∀ t ∈ ts, t.ps.length ≤ 2) → ((ts.map Tm.ps).flatten).length ≤ 2 * ts.length := by
      intro ts
      induction ts with
      | nil => intro _; simp
      | cons t ts ih =>
        intro h
        have a1 := h t (by simp)
        have a2 := ih fun t' ht' => h t' (by simp [ht'])
        rw [List.map_cons, List.flatten_cons, List.length_append, List.length_cons]
        omega
    have a := this _ fun t ht => (hr.2 t ht).2.1
    have := hr.1
    unfold kids
    omega
theorem fd_le (hok : rowsOk n rows) : ∀ p, p < n + rows.length → (foundOf n rows).getD p 0 ≤ p + 1 - n := by
  intro p
  induction p using Nat.strongRecOn with
  | _ p ih =>
    intro hp
    by_cases h : p < n
    · rw [fd_in h]; omega
    · obtain ⟨e, _, hk⟩ := fd_row hok (by omega) hp
      rw [e]
      have hb : b1 (rowAt n rows p).rd ≤ 1 := by unfold b1; split <;> omega
      rcases mx_mem ((kids (rowAt n rows p)).map fun q => (foundOf n rows).getD q 0) with h0 | h0
      · rw [h0]; omega
      · obtain ⟨q, hq, eq⟩ := List.mem_map.mp h0
        rw [← eq]
        have := ih q (hk q hq) (by have := hk q hq; omega)
        have := hk q hq
        omega
end
/-- a chain's rest is seen to -/
def Sat (n : Nat) (rows : List Rw) (best : Nat) (K : Nat → Nat) (left : List (Nat × Nat)) (p c : Nat) : Prop := (p < n ∧ c ≤ best) ∨ (n ≤ p ∧ c + b1 (rowAt n rows p).rd + 1 ≤ K p) ∨ ∃ c', c ≤ c' ∧ (p, c') ∈ left
structure WI (g : Pg) (best : Nat) (K : Nat → Nat) (left : List (Nat × Nat)) : Prop where
  lf : ∀ x ∈ left, x.1 < g.n + g.rows.length ∧ x.2 + (foundOf g.n g.rows).getD x.1 0 ≤ g.depth
  bs : best ≤ g.depth
  os : ∀ o ∈ g.outs, Sat g.n g.rows best K left o 0
  kn : ∀ p, K p ≠ 0 → g.n ≤ p ∧ p < g.n + g.rows.length ∧ K p - 1 ≤ best ∧ ∀ q ∈ kids (rowAt g.n g.rows p), Sat g.n g.rows best K left q (K p - 1)
theorem Sat.step {n : Nat} {rows : List Rw} {best best' : Nat} {K K' : Nat → Nat} {left left' : List (Nat × Nat)} {p c q c0 : Nat} (h : Sat n rows best K (left ++ [(p, c)]) q c0) (hb : best ≤ best') (hK : ∀ p, K p ≤ K' p) (hl : ∀ x ∈ left, x ∈ left')
    (h1 : p < n → c ≤ best') (h2 : n ≤ p → c + b1 (rowAt n rows p).rd + 1 ≤ K' p) : Sat n rows best' K' left' q c0 := by
  rcases h with ⟨a, b⟩ | ⟨a, b⟩ | ⟨c', a, b⟩
  · exact .inl ⟨a, by omega⟩
  · exact .inr (.inl ⟨a, by have := hK q; omega⟩)
  · rcases List.mem_append.mp b with b | b
    · exact .inr (.inr ⟨c', a, hl _ b⟩)
    · obtain ⟨rfl, rfl⟩ := Prod.mk.inj (List.mem_singleton.mp b)
      by_cases hq : q < n
      · exact .inl ⟨hq, by have := h1 hq; omega⟩
      · exact .inr (.inl ⟨by omega, by have := h2 (by omega); omega⟩)
theorem WI.start {g : Pg} (h : g.ok) : WI g 0 (fun _ => 0) (g.outs.map fun o => (o, 0)) := by
  refine ⟨fun x hx => ?_, Nat.zero_le _, fun o ho => .inr (.inr ⟨0, Nat.le_refl _, List.mem_map.mpr ⟨o, ho, rfl⟩⟩), fun p hp => absurd rfl hp⟩
  obtain ⟨o, ho, rfl⟩ := List.mem_map.mp hx
  refine ⟨h.outs.2 o ho, ?_⟩
  rw [Nat.zero_add]
  exact le_mx (List.mem_map.mpr ⟨o, ho, rfl⟩)
theorem WI.input {g : Pg} {best : Nat} {K : Nat → Nat} {left : List (Nat × Nat)} {p c : Nat} (h : WI g best K (left ++ [(p, c)])) (hp : p < g.n) : WI g (max best c) K left := by
  have hx := (h.lf (p, c) (by simp)).2
  refine ⟨fun x hx => h.lf x (by simp [hx]), by have := h.bs; dsimp only at hx; omega, fun o ho => (h.os o ho).step (by omega) (fun _ => Nat.le_refl _) (fun _ z => z) (fun _ => by omega) (fun z => by omega), fun q hq => ?_⟩
  obtain ⟨a1, a2, a3, a4⟩ := h.kn q hq
  exact ⟨a1, a2, by omega, fun z hz => (a4 z hz).step (by omega) (fun _ => Nat.le_refl _) (fun _ z => z) (fun _ => by omega) (fun z => by omega)⟩
theorem WI.known {g : Pg} {best : Nat} {K : Nat → Nat} {left : List (Nat × Nat)} {p c : Nat} (hg : g.ok) (h : WI g best K (left ++ [(p, c)])) (hp : g.n ≤ p) (hK : c + b1 (rowAt g.n g.rows p).rd < K p) : WI g (max best (c + b1 (rowAt g.n g.rows p).rd)) K left := by
  obtain ⟨hx1, hx⟩ := h.lf (p, c) (by simp)
  dsimp only at hx1 hx
  rw [(fd_row hg.rows hp hx1).1] at hx
  refine ⟨fun x hx => h.lf x (by simp [hx]), by have := h.bs; omega, fun o ho => (h.os o ho).step (by omega) (fun _ => Nat.le_refl _) (fun _ z => z) (fun _ => by omega) (fun z => by omega), fun q hq => ?_⟩
  obtain ⟨a1, a2, a3, a4⟩ := h.kn q hq
  exact ⟨a1, a2, by omega, fun z hz => (a4 z hz).step (by omega) (fun _ => Nat.le_refl _) (fun _ z => z) (fun _ => by omega) (fun z => by omega)⟩
def updN (K : Nat → Nat) (p v : Nat) : Nat → Nat := fun q => if q = p then v else K q
theorem WI.newer {g : Pg} {best : Nat} {K : Nat → Nat} {left : List (Nat × Nat)} {p c : Nat} (hg : g.ok) (h : WI g best K (left ++ [(p, c)])) (hp : g.n ≤ p) (hK : K p ≤ c + b1 (rowAt g.n g.rows p).rd) :
    WI g (max best (c + b1 (rowAt g.n g.rows p).rd)) (updN K p (c + b1 (rowAt g.n g.rows p).rd + 1)) (left ++ (kids (rowAt g.n g.rows p)).map fun q => (q, c + b1 (rowAt g.n g.rows p).rd)) := by
  obtain ⟨hx1, hx⟩ := h.lf (p, c) (by simp)
  dsimp only at hx1 hx
  obtain ⟨e1, e2, e3⟩ := fd_row hg.rows hp hx1
  rw [e1] at hx
  have hKm : ∀ q, K q ≤ updN K p (c + b1 (rowAt g.n g.rows p).rd + 1) q := by
    intro q
    unfold updN
    split
    · rename_i z; subst z; omega
    · exact Nat.le_refl _
  have hself : updN K p (c + b1 (rowAt g.n g.rows p).rd + 1) p = c + b1 (rowAt g.n g.rows p).rd + 1 := by unfold updN; rw [if_pos rfl]
  refine ⟨fun x hxm => ?_, by have := h.bs; omega, fun o ho => (h.os o ho).step (by omega) hKm (fun x z => by simp [z]) (fun _ => by omega) (fun _ => by rw [hself]; omega), fun q hq => ?_⟩
  · rcases List.mem_append.mp hxm with hm | hm
    · exact h.lf x (by simp [hm])
    · obtain ⟨q, hq, rfl⟩ := List.mem_map.mp hm
      refine ⟨by have := e3 q hq; dsimp only; omega, ?_⟩
      have := le_mx (List.mem_map.mpr ⟨q, hq, rfl⟩ : (foundOf g.n g.rows).getD q 0 ∈ (kids (rowAt g.n g.rows p)).map fun q => (foundOf g.n g.rows).getD q 0)
      dsimp only
      omega
  · by_cases hqp : q = p
    · subst hqp
      rw [hself]
      refine ⟨hp, hx1, by omega, fun z hz => .inr (.inr ⟨_, Nat.le_refl _, ?_⟩)⟩
      rw [Nat.add_sub_cancel]
      exact List.mem_append.mpr (.inr (List.mem_map.mpr ⟨z, hz, rfl⟩))
    · have eq : updN K p (c + b1 (rowAt g.n g.rows p).rd + 1) q = K q := by unfold updN; rw [if_neg hqp]
      rw [eq] at hq ⊢
      obtain ⟨a1, a2, a3, a4⟩ := h.kn q hq
      exact ⟨a1, a2, by omega, fun z hz => (a4 z hz).step (by omega) hKm (fun x z => by simp [z]) (fun _ => by omega) (fun _ => by rw [hself]; omega)⟩
theorem WI.done {g : Pg} {best : Nat} {K : Nat → Nat} (hg : g.ok) (h : WI g best K []) : best = g.depth := by
  have key : ∀ p c, p < g.n + g.rows.length → Sat g.n g.rows best K [] p c → c + (foundOf g.n g.rows).getD p 0 ≤ best := by
    intro p
    induction p using Nat.strongRecOn with
    | _ p ih =>
      intro c hp hs
      rcases hs with ⟨a, b⟩ | ⟨a, b⟩ | ⟨c', a, b⟩
      · rw [fd_in a]; exact b
      · obtain ⟨e1, e2, e3⟩ := fd_row hg.rows a hp
        obtain ⟨_, _, k3, k4⟩ := h.kn p (by omega)
        rw [e1]
        rcases mx_mem ((kids (rowAt g.n g.rows p)).map fun q => (foundOf g.n g.rows).getD q 0) with h0 | h0
        · rw [h0]; omega
        · obtain ⟨q, hq, eq⟩ := List.mem_map.mp h0
          rw [← eq]
          have := ih q (e3 q hq) _ (by have := e3 q hq; omega) (k4 q hq)
          omega
      · cases b
  refine Nat.le_antisymm h.bs ?_
  show mx _ ≤ best
  rcases mx_mem (g.outs.map fun p => (foundOf g.n g.rows).getD p 0) with h0 | h0
  · rw [h0]; omega
  · obtain ⟨o, ho, eo⟩ := List.mem_map.mp h0
    rw [← eo]
    have := key o 0 (hg.outs.2 o ho) (h.os o ho)
    omega
theorem depth_le {g : Pg} (hg : g.ok) : g.depth ≤ 12 := by
  show mx _ ≤ 12
  have hl := hg.rows.1
  rcases mx_mem (g.outs.map fun p => (foundOf g.n g.rows).getD p 0) with h0 | h0
  · rw [h0]; omega
  · obtain ⟨o, ho, eo⟩ := List.mem_map.mp h0
    rw [← eo]
    have := fd_le hg.rows o (hg.outs.2 o ho)
    have := hg.outs.2 o ho
    omega
/-- what is left to do -/
def sumTo (h : Nat → Nat) : Nat → Nat
  | 0 => 0
  | k + 1 => sumTo h k + h k
theorem sumTo_le {h h' : Nat → Nat} {k : Nat} (e : ∀ i, i < k → h' i ≤ h i) : sumTo h' k ≤ sumTo h k := by
  induction k with
  | zero => exact Nat.le_refl _
  | succ k ih =>
    have a := ih fun i hi => e i (by omega)
    have b := e k (by omega)
    unfold sumTo
    omega
theorem sumTo_lt {h h' : Nat → Nat} {k j : Nat} (e : ∀ i, i < k → h' i ≤ h i) (hj : j < k) (ej : h' j + 1 ≤ h j) : sumTo h' k + 1 ≤ sumTo h k := by
  induction k with
  | zero => omega
  | succ k ih =>
    unfold sumTo
    by_cases hk : j = k
    · subst hk
      have := sumTo_le (h := h) (h' := h') (k := j) fun i hi => e i (by omega)
      omega
    · have a := ih (fun i hi => e i (by omega)) (by omega)
      have b := e k (by omega)
      omega
theorem sumTo_const {c k : Nat} {h : Nat → Nat} (e : ∀ i, h i ≤ c) : sumTo h k ≤ c * k := by
  induction k with
  | zero => exact Nat.le_refl _
  | succ k ih =>
    have := e k
    unfold sumTo
    rw [Nat.mul_add]
    omega
def rest (g : Pg) (K : Nat → Nat) : Nat := sumTo (fun i => 14 - K (g.n + i)) g.rows.length
theorem rest_new {g : Pg} {K : Nat → Nat} {p v : Nat} (hp : g.n ≤ p) (hp2 : p < g.n + g.rows.length) (h1 : K p < v) (h2 : v ≤ 13) : rest g (updN K p v) + 1 ≤ rest g K := by
  unfold rest
  refine sumTo_lt (j := p - g.n) (fun i hi => ?_) (by omega) ?_
  · unfold updN
    split
    · rename_i z; rw [← z] at h1; omega
    · exact Nat.le_refl _
  · rw [show g.n + (p - g.n) = p by omega]
    unfold updN
    rw [if_pos rfl]
    omega
/-! ### the walk of it -/
def N_law_deepest : List Str := ["_law_made", "_law_best", "_law_known", "_law_left", "_law_place", "_law_count", "_law_word", "_law_terms", "_law_c", "_law_places", "_law_other"]
def t_law_deepest : TSD := (dSeq (dPar3 1 2 3 (dCons (dC (.int 0)) (dCons dDNew (dCons (dLc false (iTupD (dOp xAny (dVar 0) (dC (.int 2)))) (.nm 4) dYes (dTup (dCons (dVar 4) (dCons (dC (.int 0)) dNil))) [4]) dNil))))
  (dSeq (dWhile (dTest (dOp (eAny true) (dVar 3) (dLst dNil)))
  (dSeq (dAsg (dBM0 tyL mPop (dVar 3)) (gdTup 2 (gdCons (gdName 4) (gdCons (gdName 5) gdNil))))
  (dSeq (dIfS (dTest (dOp cGeI (dVar 4) (dOp xAny (dVar 0) (dC (.int 0)))))
  (dSeq (dAsg (dOp xAny (dOp xAny (dVar 0) (dC (.int 1))) (dOp aSub (dVar 4) (dOp xAny (dVar 0) (dC (.int 0))))) (gdTup 2 (gdCons (gdName 6) (gdCons (gdName 7) gdNil))))
  (dSeq (dAsg (dOp aAny (dVar 5) (dCB kInt (dCons (dOp (eAny false) (dVar 6) (dC (.str "round"))) dNil))) (gdName 5))
  (dIfS (dTest (dOp cLtI (dDGet2 (dVar 2) (dVar 4) (dUn uNeg (dC (.int 1)))) (dVar 5)))
  (dSeq (dDPut (dVar 2) (dVar 4) (dVar 5))
  (dFor (iTupD (dVar 7)) (gdTup 2 (gdCons (gdName 8) (gdCons (gdName 9) gdNil)))
  (dAsg (dOp aLstM (dVar 3) (dLc true (iTupD (dVar 9)) (.nm 10) dYes (dTup (dCons (dVar 10) (dCons (dVar 5) dNil))) [10])) (gdName 3))))
  dNext)))
  dNext)
  (dAsg (dCB kMax2 (dCons (dVar 1) (dCons (dVar 5) dNil))) (gdName 1)))))
  (dRet (dVar 1))))

def sp_law_deepest : SpD := fun ds G Q _ => ∃ g : Pg, ds = [g.d] ∧ g.ok ∧ ∀ G', (∀ b, G b ≠ none → G' b = G b) → Q (dN g.depth) G'
theorem len_law_deepest : ∀ ds G Q E, sp_law_deepest ds G Q E → ds.length = 1 := by rintro ds G Q E ⟨n, rfl, _⟩; rfl
def pD (x : Nat × Nat) : D := .tup [dN x.1, dN x.2]
def KR (kvs : List (Key × D)) (K : Nat → Nat) : Prop := ∀ p : Nat, kget kvs (.inl (p : Int)) = if K p = 0 then none else some (dN (K p - 1))
theorem KR.put {kvs : List (Key × D)} {K : Nat → Nat} (h : KR kvs K) (p v : Nat) : KR (kput kvs (.inl (p : Int)) (dN v)) (updN K p (v + 1)) := by
  intro q
  rw [kget_put]
  unfold updN
  by_cases hq : q = p
  · subst hq
    rw [if_pos rfl, if_pos rfl, if_neg (by omega)]
    rfl
  · rw [if_neg hq, if_neg (fun z => hq (by cases z; omega)), h q]
theorem py_left (l : List (Nat × Nat)) : pys (l.map pD) = some (l.map fun x => PyData.tuple [.int x.1, .int x.2]) := by
  induction l with
  | nil => rfl
  | cons x l ih => rw [List.map_cons, List.map_cons]; simp only [pys, ih, pD, D.py]; rfl
theorem shaped_left (l : List (Nat × Nat)) (h : ∀ x ∈ l, x.1 < 100 ∧ x.2 < 100) : SeqAt.shaped (.list (l.map fun x => PyData.tuple [.int x.1, .int x.2])) = true := by
  refine shaped_of (b := 60) (n := 2) (by decide) (by decide) (by decide) ?_
  simp only [fine]
  induction l with
  | nil => simp [fineAll]
  | cons x l ih =>
    have hx := h x (by simp)
    rw [List.map_cons]
    simp only [fineAll, fine]
    exact ⟨⟨by omega, by omega, trivial⟩, ih fun y hy => h y (by simp [hy])⟩
theorem vc_law_deepest : ∀ ds G Q EX, sp_law_deepest ds G Q EX → t_law_deepest { nx := fun _ G' => Q .non G', rt := Q, ex := fun x _ G' => EX x G' } (startD N_law_deepest ds) G := by
  rintro ds G Q EX ⟨g, rfl, hg, hq⟩
  show t_law_deepest _ [some (D.tup [dN g.n, .tup (g.rows.map Rw.d), .tup (g.outs.map dN)]), none, none, none, none, none, none, none, none, none, none] _
  unfold t_law_deepest
  walk_at "d"
  intro kp hkp
  walk_at "d"
  refine lc_mapM (fun o => pD (o, 0)) (fun _ _ _ => trivial) (by have := hg.outs.1; rw [sizeLine_eq]; omega) (fun a ha p acc hp => ⟨_, rfl, fun Q' q => ?_⟩) fun lp hlp => ?_
  · show dTup (dCons (dVar 4) (dCons (dC (D.int 0)) dNil)) [some (D.tup [dN g.n, .tup (g.rows.map Rw.d), .tup (g.outs.map dN)]), none, none, none, some (dN a), none, none, none, none, none, none] _ _ _
    walk_at "d"
    exact q
  have hlk : lp ≠ kp := fun z => by rw [z, gput_same] at hlp; cases hlp
  have hGl : G lp = none := by rw [← hlp, gput_ne hlk]
  walk_at "d"
  have hM := depth_le hg
  refine st_whileN (fun m σ G' => ∃ (best : Nat) (kvs : List (Key × D)) (K : Nat → Nat) (left : List (Nat × Nat)) (lp : Addr) (v4 v5 v6 v7 v8 v9 : Option D),
    σ = [some (D.tup [dN g.n, .tup (g.rows.map Rw.d), .tup (g.outs.map dN)]), some (dN best), some (.ref kp), some (.ref lp), v4, v5, v6, v7, v8, v9, none] ∧ lp ≠ kp ∧ G lp = none ∧ G' kp = some (.dK kvs) ∧ G' lp = some (.lst (left.map pD)) ∧ (∀ b, G b ≠ none → G' b = G b) ∧
    WI g best K left ∧ KR kvs K ∧ m = left.length + 8 * rest g K ∧ m ≤ 2000 ∧ kvs.length + rest g K ≤ 2000) (g.outs.length + 8 * rest g fun _ => 0) ⟨0, [], fun _ => 0, g.outs.map fun o => (o, 0), lp, none, none, none, none, none, none, rfl, hlk, hGl, ?_, ?_, ?_, WI.start hg, ?_, ?_, ?_, ?_⟩ ?_
  · exact (gput_ne hlk.symm).trans gput_same
  · rw [gput_same, List.map_map]; rfl
  · intro b hb
    rw [gput_ne (fun z : b = lp => hb (z ▸ hGl)), gput_ne (fun z : b = kp => hb (z ▸ hkp))]
  · intro p; rfl
  · rw [List.length_map]
  · have a1 := hg.outs.1
    have a2 := hg.rows.1
    have a3 : rest g (fun _ => 0) ≤ 14 * g.rows.length := sumTo_const fun i => by omega
    omega
  · have a2 := hg.rows.1
    have a3 : rest g (fun _ => 0) ≤ 14 * g.rows.length := sumTo_const fun i => by omega
    show 0 + _ ≤ 2000
    omega
  rintro m σ G1 nx' ⟨best, kvs, K, left, lp, v4, v5, v6, v7, v8, v9, rfl, hne, hG0, hk1, hl1, hfr, hw, hkr, rfl, hm1, hm2⟩ hnx
  walk_at "d"
  refine st_neP (Py.ref hl1 (py_left left)) (Py.of rfl) (shaped_left left fun x hx => ?_) (by decide) ?_
  · have a := hw.lf x hx
    have := hg.n
    have := hg.rows.1
    omega
  walk_at "d"
  rw [eqv_lst_nil]
  rcases List.eq_nil_or_concat left with rfl | ⟨L, ⟨p, c⟩, rfl⟩
  · walk_at "d"
    refine st_iteF ?_
    walk_at "d"
    have e := hw.done hg
    subst e
    exact hq G1 hfr
  rw [List.concat_eq_append] at hl1 hw hm1 hnx
  rw [List.concat_eq_append]
  have hne2 : (!(List.map (fun x : Nat × Nat => PyData.tuple [PyData.int (x.fst : Int), PyData.int (x.snd : Int)]) (L ++ [(p, c)])).isEmpty) = true := by simp
  rw [hne2]
  refine st_iteT ?_
  rw [List.map_append] at hl1
  have hx := hw.lf (p, c) (by simp)
  dsimp only at hx
  rw [List.length_append, List.length_singleton] at hm1 hnx
  walk_at "d"
  refine st_pop (d := D.tup [dN p, dN c]) (xs := L.map pD) hl1 ?_
  have hk2 : (gput G1 lp (.lst (L.map pD))) kp = some (.dK kvs) := (gput_ne hne.symm).trans hk1
  have hl2 : (gput G1 lp (.lst (L.map pD))) lp = some (.lst (L.map pD)) := gput_same
  have hf2 : ∀ b, G b ≠ none → (gput G1 lp (.lst (L.map pD))) b = G b := fun b hb => by
    rw [gput_ne (fun z : b = lp => hb (z ▸ hG0))]; exact hfr b hb
  generalize gput G1 lp (.lst (L.map pD)) = G2 at hk2 hl2 hf2
  walk_at "d"
  refine st_ite (fun hpn => ?_) (fun hpn => ?_)
  rotate_left
  · walk_at "d"
    rw [cast_max]
    walk_at "d"
    exact hnx _ _ _ (by omega) ⟨max best c, kvs, K, L, lp, _, _, _, _, _, _, rfl, hne, hG0, hk2, hl2, hf2, hw.input (by omega), hkr, rfl, by omega, hm2⟩
  have hpn2 : g.n ≤ p := by omega
  have hrow : (g.rows.map Rw.d)[p - g.n]? = some (Rw.d (rowAt g.n g.rows p)) := by
    have hi : p - g.n < g.rows.length := by omega
    unfold rowAt
    rw [List.getElem?_map, List.getD_eq_getElem?_getD, List.getElem?_eq_getElem hi]
    rfl
  walk_at "d"
  refine st_ix (Sq.tup _) (atI_of (n := p - g.n) (by omega) hrow) ?_
  have hrd : Rw.d (rowAt g.n g.rows p) = .tup [wd (rowAt g.n g.rows p).rd, .tup ((rowAt g.n g.rows p).ts.map Tm.d)] := rfl
  rw [hrd]
  walk_at "d"
  refine st_round ?_
  walk_at "d"
  rw [b1_int]
  have eK : (kget kvs (Sum.inl (p : Int))).getD (D.int (-1)) = .int ((K p : Int) - 1) := by
    rw [hkr p]
    split
    · rename_i z; rw [z]; rfl
    · show D.int ((K p - 1 : Nat) : Int) = _
      rw [show ((K p - 1 : Nat) : Int) = (K p : Int) - 1 by omega]
  rw [eK]
  have hr2 := hw
  obtain ⟨e1, e2, e3⟩ := fd_row hg.rows hpn2 hx.1
  rw [e1] at hx
  have ec : ((c : Int) + (b1 (rowAt g.n g.rows p).rd : Int)) = ((c + b1 (rowAt g.n g.rows p).rd : Nat) : Int) := by omega
  rw [ec]
  walk_at "d"
  refine st_ite (fun hlt => ?_) (fun hlt => ?_)
  rotate_left
  · walk_at "d"
    rw [cast_max]
    walk_at "d"
    exact hnx _ _ _ (by omega) ⟨max best (c + b1 (rowAt g.n g.rows p).rd), kvs, K, L, lp, _, _, _, _, _, _, rfl, hne, hG0, hk2, hl2, hf2, hw.known hg hpn2 (by omega), hkr, rfl, by omega, hm2⟩
  have hnew := rest_new (K := K) (v := c + b1 (rowAt g.n g.rows p).rd + 1) hpn2 hx.1 (by omega) (by omega)
  walk_at "d"
  refine st_dputq (kvs := kvs) hk2 rfl (by rw [sizeLine_eq]; omega) ?_
  have hkr2 := hkr.put p (c + b1 (rowAt g.n g.rows p).rd)
  have hlen2 := length_kput kvs (.inl (p : Int)) (dN (c + b1 (rowAt g.n g.rows p).rd))
  have hk3 : (gput G2 kp (.dK (kput kvs (.inl (p : Int)) (dN (c + b1 (rowAt g.n g.rows p).rd))))) kp = some (.dK (kput kvs (.inl (p : Int)) (dN (c + b1 (rowAt g.n g.rows p).rd)))) := gput_same
  have hl3 : (gput G2 kp (.dK (kput kvs (.inl (p : Int)) (dN (c + b1 (rowAt g.n g.rows p).rd))))) lp = some (.lst (L.map pD)) := (gput_ne hne).trans hl2
  have hf3 : ∀ b, G b ≠ none → (gput G2 kp (.dK (kput kvs (.inl (p : Int)) (dN (c + b1 (rowAt g.n g.rows p).rd))))) b = G b := fun b hb => by
    rw [gput_ne (fun z : b = kp => hb (z ▸ hkp))]; exact hf2 b hb
  generalize gput G2 kp (.dK (kput kvs (.inl (p : Int)) (dN (c + b1 (rowAt g.n g.rows p).rd)))) = G3 at hk3 hl3 hf3
  have hW := hw.newer hg hpn2 (by omega)
  generalize c + b1 (rowAt g.n g.rows p).rd = c' at *
  generalize kput kvs (.inl (p : Int)) (dN c') = kvs' at *
  generalize updN K p (c' + 1) = K' at *
  have hts : kids (rowAt g.n g.rows p) = ((rowAt g.n g.rows p).ts.map Tm.ps).flatten := rfl
  generalize rowAt g.n g.rows p = row at *
  walk_at "d"
  refine for_map (fun pre σ G' => ∃ lp' v8 v9, σ = [some (D.tup [dN g.n, .tup (g.rows.map Rw.d), .tup (g.outs.map dN)]), some (dN best), some (.ref kp), some (.ref lp'), some (dN p), some (dN c'), some (wd row.rd), some (.tup (row.ts.map Tm.d)), v8, v9, none] ∧ lp' ≠ kp ∧ G lp' = none ∧ G' kp = some (.dK kvs') ∧
    G' lp' = some (.lst ((L ++ ((pre.map Tm.ps).flatten.map fun q => (q, c'))).map pD)) ∧ ∀ b, G b ≠ none → G' b = G b) (fun _ _ _ _ => trivial) ⟨lp, _, _, rfl, hne, hG0, hk3, by rw [List.map_nil, List.flatten_nil, List.map_nil, List.append_nil]; exact hl3, hf3⟩ ?_ ?_
  · rintro pre t post σ G4 e ⟨lp', v8, v9, rfl, hne', hG0', hk4, hl4, hf4⟩
    have hlt6 : ((pre.map Tm.ps).flatten).length + t.ps.length ≤ 6 := by
      rw [hts, e, List.map_append, List.flatten_append, List.length_append, List.map_cons, List.flatten_cons, List.length_append] at e2
      omega
    have htd : Tm.d t = .tup [.int t.co, .tup (t.ps.map dN)] := rfl
    rw [htd]
    walk_at "d"
    refine lc_map (fun q => pD (q, c')) (fun _ _ _ => trivial) (by rw [sizeLine_eq]; omega) (fun a ha p2 acc hp2 => ⟨_, rfl, fun Q' qq => ?_⟩) ?_
    · show dTup (dCons (dVar 10) (dCons (dVar 5) dNil)) [some (D.tup [dN g.n, .tup (g.rows.map Rw.d), .tup (g.outs.map dN)]), some (dN best), some (.ref kp), some (.ref lp'), some (dN p), some (dN c'), some (wd row.rd), some (.tup (row.ts.map Tm.d)), some (.int t.co), some (.tup (t.ps.map dN)), some (dN a)] _ _ _
      walk_at "d"
      exact qq
    refine st_addLM (Ls.ref hl4) (Ls.lst _) (by simp only [List.length_map, List.length_append]; rw [sizeLine_eq]; omega) fun l2 hl2' => ?_
    have hG2 : G l2 = none := by
      cases z : G l2 with
      | none => rfl
      | some o => have := hf4 l2 (by rw [z]; simp); rw [hl2', z] at this; cases this
    have hn2 : l2 ≠ kp := fun z => by rw [z, hk4] at hl2'; cases hl2'
    walk_at "d"
    refine ⟨l2, _, _, rfl, hn2, hG2, (gput_ne hn2.symm).trans hk4, ?_, fun b hb => by rw [gput_ne (fun z : b = l2 => hb (z ▸ hG2))]; exact hf4 b hb⟩
    rw [gput_same]
    simp only [List.map_append, List.flatten_append, List.map_cons, List.map_nil, List.flatten_cons, List.flatten_nil, List.append_nil, List.append_assoc, List.map_map]
    rfl
  · rintro σ G4 ⟨lp', v8, v9, rfl, hne', hG0', hk4, hl4, hf4⟩
    walk_at "d"
    rw [cast_max]
    walk_at "d"
    rw [← hts] at hl4
    have hl6 : (L ++ (kids row).map fun q => (q, c')).length ≤ L.length + 6 := by simp; omega
    exact hnx _ _ _ (by omega) ⟨max best c', kvs', K', _, lp', _, _, _, _, _, _, rfl, hne', hG0', hk4, hl4, hf4, hW, hkr2, rfl, by omega, by omega⟩
/-! ### repr of a program -/
def pyN (n : Nat) : PyData := .int (n : Int)
def Tm.py (t : Tm) : PyData := .tuple [.int t.co, .tuple (t.ps.map pyN)]
def Rw.py (r : Rw) : PyData := .tuple [.str (if r.rd then "round" else "exact"), .tuple (r.ts.map Tm.py)]
def Pg.py (g : Pg) : PyData := .tuple [pyN g.n, .tuple (g.rows.map Rw.py), .tuple (g.outs.map pyN)]
theorem Tm.d_py (t : Tm) : t.d.py = some t.py := by
  simp only [Tm.d, D.py, pys, pys_map (f := dN) (g := pyN) fun a => rfl]; rfl
theorem Rw.d_py (r : Rw) : r.d.py = some r.py := by
  simp only [Rw.d, wd, D.py, pys, pys_map Tm.d_py]; rfl
theorem Pg.d_py (g : Pg) : g.d.py = some g.py := by
  simp only [Pg.d, D.py, pys, pys_map Rw.d_py, pys_map (f := dN) (g := pyN) fun a => rfl]; rfl
theorem fine_pyN {p n : Nat} (h : p < 2 ^ 50) : fine 60 n (pyN p) := by
  cases n <;> (simp only [pyN, fine]; omega)
theorem Pg.shw {g : Pg} (h : g.ok) : Shw g.py := by
  have hn := h.n
  have hr := h.rows.1
  have row : ∀ r ∈ g.rows, Rw.ok (g.n + 12) r := by
    intro r hr'
    obtain ⟨i, hi, e⟩ := List.getElem_of_mem hr'
    have a := h.rows.2 i r (by rw [← e]; exact List.getElem?_eq_getElem hi)
    exact ⟨a.1, fun t ht => ⟨(a.2 t ht).1, (a.2 t ht).2.1, fun p hp => by have := (a.2 t ht).2.2 p hp; omega⟩⟩
  refine shw_of (b := 60) (n := 7) (by decide) (by decide) (by decide) ?_ ?_
  · simp only [Pg.py, fine, fineAll]
    refine ⟨fine_pyN (by omega), fineAll_of ?_, fineAll_of ?_, trivial⟩
    · intro x hx
      obtain ⟨r, hr', rfl⟩ := List.mem_map.mp hx
      have ro := row r hr'
      simp only [Rw.py, fine, fineAll]
      refine ⟨by cases r.rd <;> decide +kernel, fineAll_of ?_, trivial⟩
      intro y hy
      obtain ⟨t, ht, rfl⟩ := List.mem_map.mp hy
      have to := ro.2 t ht
      simp only [Tm.py, fine, fineAll]
      refine ⟨by omega, fineAll_of ?_, trivial⟩
      intro z hz
      obtain ⟨q, hq, rfl⟩ := List.mem_map.mp hz
      exact fine_pyN (by have := to.2.2 q hq; omega)
    · intro x hx
      obtain ⟨q, hq, rfl⟩ := List.mem_map.mp hx
      exact fine_pyN (by have := h.outs.2 q hq; omega)
  · have b1 : PyData.bulkAll (g.outs.map pyN) ≤ (0 + 1) * (g.outs.map pyN).length := bulkAll_le fun x hx => by
      obtain ⟨q, hq, rfl⟩ := List.mem_map.mp hx
      simp [pyN, PyData.bulk]
    have b2 : PyData.bulkAll (g.rows.map Rw.py) ≤ (30 + 1) * (g.rows.map Rw.py).length := bulkAll_le fun x hx => by
      obtain ⟨r, hr', rfl⟩ := List.mem_map.mp hx
      have ro := row r hr'
      have b3 : PyData.bulkAll (r.ts.map Tm.py) ≤ (6 + 1) * (r.ts.map Tm.py).length := bulkAll_le fun y hy => by
        obtain ⟨t, ht, rfl⟩ := List.mem_map.mp hy
        have to := ro.2 t ht
        have b4 : PyData.bulkAll (t.ps.map pyN) ≤ (0 + 1) * (t.ps.map pyN).length := bulkAll_le fun x hx => by
          obtain ⟨q, hq, rfl⟩ := List.mem_map.mp hx
          simp [pyN, PyData.bulk]
        rw [List.length_map] at b4
        simp only [Tm.py, PyData.bulk, PyData.bulkAll]
        omega
      rw [List.length_map] at b3
      have w5 : (if r.rd then ("round" : Str) else "exact").cps.size = 5 := by cases r.rd <;> decide +kernel
      have := ro.1
      simp only [Rw.py, PyData.bulk, PyData.bulkAll, w5]
      omega
    rw [List.length_map] at b1 b2
    have := h.outs.1
    simp only [Pg.py, pyN, PyData.bulk, PyData.bulkAll]
    omega
/-! ### the law -/
def N_law : List Str := ["_law_script", "_law_drawn", "_law_turn", "_law_made", "_law_held", "_law_due"]
def t_law : TSD := (dSeq (dAsg (dCall sp_law_draws (dCons (dVar 0) dNil)) (gdName 1))
  (dSeq (dFor (iRngD1 (dCons (dC (.int 24)) dNil)) (gdName 2)
  (dSeq (dAsg (dCall sp_law_program (dCons (dVar 1) dNil)) (gdName 3))
  (dSeq (dPar 4 5 (dCons (dCB kRepr (dCons (dVar 3) dNil)) (dCons (dCall sp_law_deepest (dCons (dVar 3) dNil)) dNil)))
  (dIfS (dOr (dTest (dOp (eAny true) (dCB kRepr (dCons (dLst (dCons (dCall sp_depth (dCons (dVar 3) dNil)) (dCons (dCallK 0 1 [0] sp_depth dNil (dCons (dVar 3) dNil)) dNil))) dNil)) (dCB kRepr (dCons (dLst (dCons (dVar 5) (dCons (dVar 5) dNil))) dNil)))) (dTest (dOp (eAny true) (dCB kRepr (dCons (dVar 3) dNil)) (dVar 4))))
  (dRet (dC (.bl false)))
  dNext))))
  (dRet (dC (.bl true)))))

abbrev sp_law : SpD := spLaw 63
theorem len_law : ∀ ds G Q E, sp_law ds G Q E → ds.length = 1 := by rintro ds G Q E ⟨n, rfl, _⟩; rfl
theorem two_shw {i : Int} (h : i.natAbs < 2 ^ 60) : Shw (.list [.int i, .int i]) := shw_of (b := 60) (n := 1) (by decide) (by decide) (by decide) (by simp [fine, fineAll, h]) (by simp [PyData.bulk, PyData.bulkAll])
theorem vc_law : ∀ ds G Q EX, sp_law ds G Q EX → t_law { nx := fun _ G' => Q .non G', rt := Q, ex := fun x _ G' => EX x G' } (startD N_law ds) G := by
  rintro ds G Q EX ⟨ns, rfl, h1, hbt, rfl, hq⟩
  show t_law _ [some (D.wls (ns.map D.int)), none, none, none, none, none] _
  unfold t_law
  walk_at "d"
  refine ⟨ns, rfl, h1, hbt, fun p G' hp hf hb => ?_⟩
  walk_at "d"
  refine for_rng0 (n := 24) (fun i σ G' => ∃ v w x y, σ = [some (.wls (ns.map D.int)), some (.ref p), v, w, x, y] ∧ Drw G' p (200 * i)) ⟨_, _, _, _, rfl, hf⟩ ?_ ?_
  · rintro i σ G1 hi ⟨v, w, x, y, rfl, hd⟩
    walk_at "d"
    refine ⟨p, 200 * i, rfl, hd, by omega, fun g G2 hg hd2 => ?_⟩
    walk_at "d"
    refine st_repr (Py.of g.d_py) (Pg.shw hg) ?_
    walk_at "d"
    refine ⟨g, rfl, hg, fun G3 hf3 => ?_⟩
    have hd3 := hd2.at (hf3 p hd2.some)
    walk_at "d"
    refine ⟨g, rfl, hg, ?_⟩
    walk_at "d"
    refine ⟨rfl, rfl, g, rfl, hg, ?_⟩
    walk_at "d"
    have hb := two_shw (i := (g.depth : Int)) (by have := depth_le hg; omega)
    refine st_repr (Py.of rfl) hb ?_
    walk_at "d"
    refine st_repr (Py.of rfl) hb ?_
    walk_at "d"
    refine st_repr (Py.of g.d_py) (Pg.shw hg) ?_
    walk_at "d"
    exact ⟨_, _, _, _, rfl, hd3.mono (by omega)⟩
  · rintro σ G1 ⟨v, w, x, y, rfl, hd⟩
    walk_at "d"
    exact hq _

def top (i : Nat) : Stmt := PySem.Challenge.pw_everyround_k43_depth.main.body.getD i (.Pass ⟨0, 0, 0, 0⟩)
abbrev s_law_draws : Stmt := top 3
theorem sc_law_draws : FnScope N_law_draws ["_law_script"] (defScope s_law_draws) := ⟨rfl, rfl, rfl, by decide +kernel, rfl, by decide +kernel, by decide +kernel⟩
abbrev s_law_next : Stmt := top 4
theorem sc_law_next : FnScope N_law_next ["_law_drawn", "_law_many"] (defScope s_law_next) := ⟨rfl, rfl, rfl, by decide +kernel, rfl, by decide +kernel, by decide +kernel⟩
abbrev s_law_one : Stmt := top 5
theorem sc_law_one : FnScope N_law_one ["_law_drawn", "_law_items"] (defScope s_law_one) := ⟨rfl, rfl, rfl, by decide +kernel, rfl, by decide +kernel, by decide +kernel⟩
abbrev s_law_program : Stmt := top 6
theorem sc_law_program : FnScope N_law_program ["_law_drawn"] (defScope s_law_program) := ⟨rfl, rfl, rfl, by decide +kernel, rfl, by decide +kernel, by decide +kernel⟩
abbrev s_law_deepest : Stmt := top 7
theorem sc_law_deepest : FnScope N_law_deepest ["_law_made"] (defScope s_law_deepest) := ⟨rfl, rfl, rfl, by decide +kernel, rfl, by decide +kernel, by decide +kernel⟩
abbrev s_depth : Stmt := top 1
theorem sc_depth : FnScope N_depth ["program"] (defScope s_depth) := ⟨rfl, rfl, rfl, by decide +kernel, rfl, by decide +kernel, by decide +kernel⟩
abbrev s_law : Stmt := top 8
theorem sc_law : FnScope N_law ["_law_script"] (defScope s_law) := ⟨rfl, rfl, rfl, by decide +kernel, rfl, by decide +kernel, by decide +kernel⟩
/-- what the top has written -/
structure Txt (K : PySem.W.Frag) (mg : Str → Option Value) where
  f_law_draws : Addr
  fd_law_draws : FuncData
  F_law_draws : Fun K "_law_draws" "_law_draws" s_law_draws f_law_draws fd_law_draws
  m_law_draws : mg "_law_draws" = some (.ref f_law_draws)
  b_law_draws : Binds K fd_law_draws ["_law_script"] []
  f_law_next : Addr
  fd_law_next : FuncData
  F_law_next : Fun K "_law_next" "_law_next" s_law_next f_law_next fd_law_next
  m_law_next : mg "_law_next" = some (.ref f_law_next)
  b_law_next : Binds K fd_law_next ["_law_drawn", "_law_many"] []
  f_law_one : Addr
  fd_law_one : FuncData
  F_law_one : Fun K "_law_one" "_law_one" s_law_one f_law_one fd_law_one
  m_law_one : mg "_law_one" = some (.ref f_law_one)
  b_law_one : Binds K fd_law_one ["_law_drawn", "_law_items"] []
  f_law_program : Addr
  fd_law_program : FuncData
  F_law_program : Fun K "_law_program" "_law_program" s_law_program f_law_program fd_law_program
  m_law_program : mg "_law_program" = some (.ref f_law_program)
  b_law_program : Binds K fd_law_program ["_law_drawn"] []
  f_law_deepest : Addr
  fd_law_deepest : FuncData
  F_law_deepest : Fun K "_law_deepest" "_law_deepest" s_law_deepest f_law_deepest fd_law_deepest
  m_law_deepest : mg "_law_deepest" = some (.ref f_law_deepest)
  b_law_deepest : Binds K fd_law_deepest ["_law_made"] []
  f_depth : Addr
  fd_depth : FuncData
  F_depth : Fun K "depth" "depth" s_depth f_depth fd_depth
  m_depth : mg "depth" = some (.ref f_depth)
  b_depth : Binds K fd_depth ["program"] []
  f_law : Addr
  fd_law : FuncData
  F_law : Fun K "law" "law" s_law f_law fd_law
  m_law : mg "law" = some (.ref f_law)
  b_law : Binds K fd_law ["_law_script"] []
  kb_depth_0_program : KBd K fd_depth ["program"] 0 ["program"] [0]
  n_range : mg "range" = none
  n_repr : mg "repr" = none
  n_len : mg "len" = none
  n_abs : mg "abs" = none
  n_int : mg "int" = none
  n_tuple : mg "tuple" = none
  n_max : mg "max" = none
section
variable {P : Program} {w : World} {K : PySem.W.Frag} {mg : Str → Option Value} {base : Heap}
theorem ok_law_draws (T : Txt K mg) : FnG P w K mg base 1 T.f_law_draws T.fd_law_draws ["_law_script"] sp_law_draws :=
  FunG.ok (N := N_law_draws) T.F_law_draws sc_law_draws len_law_draws fun cdv A outer s H E hA hr => ⟨t_law_draws, (by exact (dss_cons (ds_par (i := 2) (j := 3) rfl sc_law_draws.nd rfl rfl (by decide) rfl rfl (da_cons de_int (da_cons (de_op oAdd de_int (de_op oMul de_int (de_callB cLen (by rfl) T.n_len (by decide +kernel) (da_cons (de_var 0) da_nil)))) da_nil)) (by rfl))
  (dss_cons (ds_for (passes_of rfl) rfl (di_lst (de_sl (de_var 0) do_none (do_some de_int))) (dg_name sc_law_draws.nd (i := 1) rfl (Or.inl rfl))
  (dss_cons (ds_set (i := 3) sc_law_draws.nd rfl (Or.inl rfl) (de_op oMod (de_op oAdd (de_op oAdd (de_op oAdd (de_op oMul (de_var 3) de_int) (de_op oMul de_int (de_callB cAbs (by rfl) T.n_abs (by decide +kernel) (da_cons (de_var 1) da_nil)))) (de_callTy cInt (by rfl) T.n_int (by decide +kernel) (da_cons (de_cmp oLt (de_var 1) de_int (nomark _)) da_nil))) de_int) de_int))
  (dss_one (ds_if (dt_cmp oGe (de_callB cAbs (by rfl) T.n_abs (by decide +kernel) (da_cons (de_var 1) da_nil)) (de_op oPow de_int de_int) (nomark _))
  (dss_one (ds_set (i := 2) sc_law_draws.nd rfl (Or.inl rfl) (de_op oAdd (de_op oMul (de_var 2) de_int) (de_callB cAbs (by rfl) T.n_abs (by decide +kernel) (da_cons (de_var 1) da_nil)))))
  dss_nil))))
  (dss_one (ds_ret (de_lstM (da_cons (de_var 2) (da_cons (de_var 3) (da_cons de_int da_nil))))))))), vc_law_draws⟩
theorem ok_law_next (T : Txt K mg) : FnG P w K mg base 1 T.f_law_next T.fd_law_next ["_law_drawn", "_law_many"] sp_law_next :=
  FunG.ok (N := N_law_next) T.F_law_next sc_law_next len_law_next fun cdv A outer s H E hA hr => ⟨t_law_next, (by exact (dss_cons (ds_if (dt_cmp oGt (de_ix (de_var 0) de_int) de_int (nomark _))
  (dss_cons (ds_set (i := 3) sc_law_next.nd rfl (Or.inl rfl) (de_op oMod (de_callTy cInt (by rfl) T.n_int (by decide +kernel) (da_cons (de_ix (de_var 0) de_int) da_nil)) (de_var 1)))
  (dss_cons (ds_asg (de_op oDiv (de_ix (de_var 0) de_int) (de_var 1)) (dg_sub (de_var 0) de_int))
  (dss_one (ds_ret (de_var 3)))))
  dss_nil)
  (dss_cons (ds_asg (de_op oAdd (de_ix (de_var 0) de_int) de_int) (dg_sub (de_var 0) de_int))
  (dss_cons (ds_set (i := 2) sc_law_next.nd rfl (Or.inl rfl) (de_op oMod (de_op oAdd (de_callTy cInt (by rfl) T.n_int (by decide +kernel) (da_cons (de_ix (de_var 0) de_int) da_nil)) (de_op oMul de_int (de_ix (de_var 0) de_int))) de_int))
  (dss_cons (ds_set (i := 2) sc_law_next.nd rfl (Or.inl rfl) (de_op oMod (de_op oMul (de_var 2) (de_op oAdd (de_op oMod (de_var 2) de_int) de_int)) de_int))
  (dss_one (ds_ret (de_op oMod (de_op oDiv (de_op oMod (de_op oMul (de_var 2) (de_var 2)) de_int) de_int) (de_var 1))))))))), vc_law_next⟩
theorem ok_law_one (T : Txt K mg) : FnG P w K mg base 2 T.f_law_one T.fd_law_one ["_law_drawn", "_law_items"] sp_law_one :=
  FunG.ok (N := N_law_one) T.F_law_one sc_law_one len_law_one fun cdv A outer s H E hA hr => ⟨t_law_one, (by exact (dss_one (ds_ret (de_ix (de_var 1) (de_call (ok_law_next T) hA (hr.mono (by decide)) (by rfl) T.m_law_next T.F_law_next.kp T.b_law_next (takes_of rfl rfl rfl rfl) (da_cons (de_var 0) (da_cons (de_callB cLen (by rfl) T.n_len (by decide +kernel) (da_cons (de_var 1) da_nil)) da_nil))))))), vc_law_one⟩
theorem ok_law_program (T : Txt K mg) : FnG P w K mg base 3 T.f_law_program T.fd_law_program ["_law_drawn"] sp_law_program :=
  FunG.ok (N := N_law_program) T.F_law_program sc_law_program len_law_program fun cdv A outer s H E hA hr => ⟨t_law_program, (by exact (dss_cons (ds_par3 (i := 3) (j := 4) (l := 5) rfl sc_law_program.nd rfl rfl rfl (by decide) (by decide) (by decide) rfl rfl rfl (da_cons (de_call (ok_law_next T) hA (hr.mono (by decide)) (by rfl) T.m_law_next T.F_law_next.kp T.b_law_next (takes_of rfl rfl rfl rfl) (da_cons (de_var 0) (da_cons de_int da_nil))) (da_cons (de_lstM da_nil) (da_cons (de_cmp (oEq (hu64 hr)) (de_call (ok_law_next T) hA (hr.mono (by decide)) (by rfl) T.m_law_next T.F_law_next.kp T.b_law_next (takes_of rfl rfl rfl rfl) (da_cons (de_var 0) (da_cons de_int da_nil))) de_int (nomark _)) da_nil))) (by rfl))
  (dss_cons (ds_for (passes_of rfl) rfl (di_rng1 (by rfl) T.n_range (da_cons (de_call (ok_law_one T) hA (hr.mono (by decide)) (by rfl) T.m_law_one T.F_law_one.kp T.b_law_one (takes_of rfl rfl rfl rfl) (da_cons (de_var 0) (da_cons (de_lst (da_cons de_int (da_cons de_int (da_cons de_int (da_cons de_int (da_cons de_int da_nil)))))) da_nil))) da_nil)) (dg_name sc_law_program.nd (i := 1) rfl (Or.inl rfl))
  (dss_cons (ds_asg (de_tup (da_cons (de_op oAdd (de_var 3) (de_var 1)) (da_cons (de_lstM da_nil) da_nil))) (dg_tup rfl (dgs_cons (dg_name sc_law_program.nd (i := 2) rfl (Or.inr rfl)) (dgs_cons (dg_name sc_law_program.nd (i := 7) rfl (Or.inl rfl)) dgs_nil))))
  (dss_cons (ds_for (passes_of rfl) rfl (di_rng1 (by rfl) T.n_range (da_cons (de_call (ok_law_next T) hA (hr.mono (by decide)) (by rfl) T.m_law_next T.F_law_next.kp T.b_law_next (takes_of rfl rfl rfl rfl) (da_cons (de_var 0) (da_cons de_int da_nil))) da_nil)) (dg_name sc_law_program.nd (i := 6) rfl (Or.inl rfl))
  (dss_cons (ds_setLc (own := [("_law_j", 9)]) (i := 8) rfl sc_law_program.nd rfl rfl (sw_true rfl rfl rfl (by decide +kernel)) true (.nm 9) (di_rng1 (by rfl) T.n_range (da_cons (de_op oMul (de_call (ok_law_next T) hA (hr.mono (by decide)) (by rfl) T.m_law_next T.F_law_next.kp T.b_law_next (takes_of rfl rfl rfl rfl) (da_cons (de_var 0) (da_cons de_int da_nil))) (de_callTy cInt (by rfl) T.n_int (by decide +kernel) (da_cons (de_cmp oGt (de_var 2) de_int (nomark _)) da_nil))) da_nil)) (blkOk_by (N := N_law_program) (sc := defScope s_law_program) (by decide +kernel)) (by decide) (fun _ _ _ _ _ => by exact (pg_name (i := 9) sc_law_program.nd rfl (Or.inl rfl))) (fun _ _ _ _ _ => by exact dts_nil) (fun _ _ _ _ _ => by exact (de_call (ok_law_next T) hA (hr.mono (by decide)) (by rfl) T.m_law_next T.F_law_next.kp T.b_law_next takes0 (da_cons (de_var 0) (da_cons (de_var 2) da_nil)))))
  (dss_cons (ds_if (DW.pt (dw_and (dt_tru (de_var 5)) (dw_and (dt_cmp oGt (de_var 1) de_int (nomark _)) (dw_and1 (dt_cmp (oEq (hu64 hr)) (de_var 6) de_int (nomark _))))))
  (dss_one (ds_set (i := 8) sc_law_program.nd rfl (Or.inl rfl) (de_op oAdd (de_sl (de_var 8) do_none (do_some de_int)) (de_lst (da_cons (de_op oSub (de_var 2) de_int) da_nil)))))
  dss_nil)
  (dss_one (ds_expr (de_append (de_var 7) (da_cons (de_tup (da_cons (de_call (ok_law_one T) hA (hr.mono (by decide)) (by rfl) T.m_law_one T.F_law_one.kp T.b_law_one (takes_of rfl rfl rfl rfl) (da_cons (de_var 0) (da_cons (de_lst (da_cons de_int (da_cons (de_neg de_int) (da_cons de_int (da_cons de_int (da_cons de_int da_nil)))))) da_nil))) (da_cons (de_callTy cTuple (by rfl) T.n_tuple (by decide +kernel) (da_cons (de_var 8) da_nil)) da_nil))) da_nil)))))))
  (dss_one (ds_expr (de_append (de_var 4) (da_cons (de_tup (da_cons (de_call (ok_law_one T) hA (hr.mono (by decide)) (by rfl) T.m_law_one T.F_law_one.kp T.b_law_one (takes_of rfl rfl rfl rfl) (da_cons (de_var 0) (da_cons (de_lst (da_cons de_str (da_cons de_str da_nil))) da_nil))) (da_cons (de_callTy cTuple (by rfl) T.n_tuple (by decide +kernel) (da_cons (de_var 7) da_nil)) da_nil))) da_nil)))))))
  (dss_cons (ds_if (dt_cmp (oEq (hu64 hr)) (de_op oAdd (de_var 3) (de_callB cLen (by rfl) T.n_len (by decide +kernel) (da_cons (de_var 4) da_nil))) de_int (nomark _))
  (dss_one (ds_set (i := 4) sc_law_program.nd rfl (Or.inl rfl) (de_lstM (da_cons (de_tup (da_cons de_str (da_cons (de_tup da_nil) da_nil))) da_nil))))
  dss_nil)
  (dss_cons (ds_set (i := 2) sc_law_program.nd rfl (Or.inr rfl) (de_op oAdd (de_var 3) (de_callB cLen (by rfl) T.n_len (by decide +kernel) (da_cons (de_var 4) da_nil))))
  (dss_one (ds_ret (de_tup (da_cons (de_var 3) (da_cons (de_callTy cTuple (by rfl) T.n_tuple (by decide +kernel) (da_cons (de_var 4) da_nil)) (da_cons (de_callTy cTuple (by rfl) T.n_tuple (by decide +kernel) (da_cons (de_lc (own := [("_law_k", 6)]) true (.nm 6) rfl sc_law_program.nd (di_rng1 (by rfl) T.n_range (da_cons (de_op oAdd de_int (de_call (ok_law_next T) hA (hr.mono (by decide)) (by rfl) T.m_law_next T.F_law_next.kp T.b_law_next (takes_of rfl rfl rfl rfl) (da_cons (de_var 0) (da_cons de_int da_nil)))) da_nil)) (blkOk_by (N := N_law_program) (sc := defScope s_law_program) (by decide +kernel)) (by decide) (fun _ _ _ _ _ => by exact (pg_name (i := 6) sc_law_program.nd rfl (Or.inl rfl))) (fun _ _ _ _ _ => by exact dts_nil) (fun _ _ _ _ _ => by exact (de_call (ok_law_next T) hA (hr.mono (by decide)) (by rfl) T.m_law_next T.F_law_next.kp T.b_law_next takes0 (da_cons (de_var 0) (da_cons (de_var 2) da_nil))))) da_nil)) da_nil))))))))))), vc_law_program⟩
theorem ok_law_deepest (T : Txt K mg) : FnG P w K mg base 1 T.f_law_deepest T.fd_law_deepest ["_law_made"] sp_law_deepest :=
  FunG.ok (N := N_law_deepest) T.F_law_deepest sc_law_deepest len_law_deepest fun cdv A outer s H E hA hr => ⟨t_law_deepest, (by exact (dss_cons (ds_par3 (i := 1) (j := 2) (l := 3) rfl sc_law_deepest.nd rfl rfl rfl (by decide) (by decide) (by decide) rfl rfl rfl (da_cons de_int (da_cons de_dnew (da_cons (de_lc (own := [("_law_place", 4)]) false (.nm 4) rfl sc_law_deepest.nd (di_tup (de_ix (de_var 0) de_int)) (blkOk_by (N := N_law_deepest) (sc := defScope s_law_deepest) (by decide +kernel)) (by decide) (fun _ _ _ _ _ => by exact (pg_name (i := 4) sc_law_deepest.nd rfl (Or.inl rfl))) (fun _ _ _ _ _ => by exact dts_nil) (fun _ _ _ _ _ => by exact (de_tup (da_cons (de_var 4) (da_cons de_int da_nil))))) da_nil))) (by rfl))
  (dss_cons (ds_while (passes_of rfl) (dt_cmp (oNe (hu64 hr)) (de_var 3) (de_lst da_nil) (nomark _))
  (dss_cons (ds_asg (de_pop (de_var 3)) (dg_tup rfl (dgs_cons (dg_name sc_law_deepest.nd (i := 4) rfl (Or.inl rfl)) (dgs_cons (dg_name sc_law_deepest.nd (i := 5) rfl (Or.inr rfl)) dgs_nil))))
  (dss_cons (ds_if (dt_cmp oGe (de_var 4) (de_ix (de_var 0) de_int) (nomark _))
  (dss_cons (ds_asg (de_ix (de_ix (de_var 0) de_int) (de_op oSub (de_var 4) (de_ix (de_var 0) de_int))) (dg_tup rfl (dgs_cons (dg_name sc_law_deepest.nd (i := 6) rfl (Or.inl rfl)) (dgs_cons (dg_name sc_law_deepest.nd (i := 7) rfl (Or.inl rfl)) dgs_nil))))
  (dss_cons (ds_set (i := 5) sc_law_deepest.nd rfl (Or.inr rfl) (de_op oAdd (de_var 5) (de_callTy cInt (by rfl) T.n_int (by decide +kernel) (da_cons (de_cmp (oEq (hu64 hr)) (de_var 6) de_str (nomark _)) da_nil))))
  (dss_one (ds_if (dt_cmp oLt (de_dget2 (hu_of hr) (de_var 2) (de_var 4) (de_neg de_int) ⟨rfl, rfl, rfl, rfl⟩) (de_var 5) (nomark _))
  (dss_cons (ds_dput (hu_of hr) (de_var 2) (de_var 4) (de_var 5))
  (dss_one (ds_for (passes_of rfl) rfl (di_tup (de_var 7)) (dg_tup rfl (dgs_cons (dg_name sc_law_deepest.nd (i := 8) rfl (Or.inl rfl)) (dgs_cons (dg_name sc_law_deepest.nd (i := 9) rfl (Or.inl rfl)) dgs_nil)))
  (dss_one (ds_set (i := 3) sc_law_deepest.nd rfl (Or.inl rfl) (de_op oAddLstM (de_var 3) (de_lc (own := [("_law_other", 10)]) true (.nm 10) rfl sc_law_deepest.nd (di_tup (de_var 9)) (blkOk_by (N := N_law_deepest) (sc := defScope s_law_deepest) (by decide +kernel)) (by decide) (fun _ _ _ _ _ => by exact (pg_name (i := 10) sc_law_deepest.nd rfl (Or.inl rfl))) (fun _ _ _ _ _ => by exact dts_nil) (fun _ _ _ _ _ => by exact (de_tup (da_cons (de_var 10) (da_cons (de_var 5) da_nil)))))))))))
  dss_nil))))
  dss_nil)
  (dss_one (ds_set (i := 1) sc_law_deepest.nd rfl (Or.inl rfl) (de_callB (cMax2 rfl) (by rfl) T.n_max (by decide +kernel) (da_cons (de_var 1) (da_cons (de_var 5) da_nil))))))))
  (dss_one (ds_ret (de_var 1)))))), vc_law_deepest⟩
theorem ok_depth (T : Txt K mg) : FnG P w K mg base 1 T.f_depth T.fd_depth ["program"] sp_depth :=
  FunG.ok (N := N_depth) T.F_depth sc_depth len_depth fun cdv A outer s H E hA hr => ⟨t_depth, (by exact (dss_cons (ds_asg (de_var 0) (dg_tup rfl (dgs_cons (dg_name sc_depth.nd (i := 4) rfl (Or.inl rfl)) (dgs_cons (dg_name sc_depth.nd (i := 5) rfl (Or.inl rfl)) (dgs_cons (dg_name sc_depth.nd (i := 6) rfl (Or.inl rfl)) dgs_nil)))))
  (dss_cons (ds_set (i := 1) sc_depth.nd rfl (Or.inl rfl) (de_op oRepM (de_lst (da_cons de_int da_nil)) (de_var 4)))
  (dss_cons (ds_for (passes_of rfl) rfl (di_tup (de_var 5)) (dg_tup rfl (dgs_cons (dg_name sc_depth.nd (i := 7) rfl (Or.inl rfl)) (dgs_cons (dg_name sc_depth.nd (i := 8) rfl (Or.inl rfl)) dgs_nil)))
  (dss_cons (ds_set (i := 9) sc_depth.nd rfl (Or.inl rfl) de_int)
  (dss_cons (ds_for (passes_of rfl) rfl (di_tup (de_var 8)) (dg_tup rfl (dgs_cons (dg_name sc_depth.nd (i := 10) rfl (Or.inl rfl)) (dgs_cons (dg_name sc_depth.nd (i := 11) rfl (Or.inl rfl)) dgs_nil)))
  (dss_one (ds_for (passes_of rfl) rfl (di_tup (de_var 11)) (dg_name sc_depth.nd (i := 3) rfl (Or.inl rfl))
  (dss_one (ds_set (i := 9) sc_depth.nd rfl (Or.inl rfl) (de_callB (cMax2 rfl) (by rfl) T.n_max (by decide +kernel) (da_cons (de_var 9) (da_cons (de_ix (de_var 1) (de_var 3)) da_nil))))))))
  (dss_one (ds_expr (de_append (de_var 1) (da_cons (de_op oAdd (de_var 9) (de_callTy cInt (by rfl) T.n_int (by decide +kernel) (da_cons (de_cmp (oEq (hu64 hr)) (de_var 7) de_str (nomark _)) da_nil))) da_nil)))))))
  (dss_cons (ds_set (i := 2) sc_depth.nd rfl (Or.inl rfl) de_int)
  (dss_cons (ds_for (passes_of rfl) rfl (di_tup (de_var 6)) (dg_name sc_depth.nd (i := 3) rfl (Or.inl rfl))
  (dss_one (ds_set (i := 2) sc_depth.nd rfl (Or.inl rfl) (de_callB (cMax2 rfl) (by rfl) T.n_max (by decide +kernel) (da_cons (de_var 2) (da_cons (de_ix (de_var 1) (de_var 3)) da_nil))))))
  (dss_frz 1 (dss_one (ds_ret (de_var 2)))))))))), vc_depth⟩
theorem ok_law (T : Txt K mg) : FnG P w K mg base 4 T.f_law T.fd_law ["_law_script"] sp_law :=
  FunG.ok (N := N_law) T.F_law sc_law len_law fun cdv A outer s H E hA hr => ⟨t_law, (by exact (dss_cons (ds_set (i := 1) sc_law.nd rfl (Or.inl rfl) (de_call (ok_law_draws T) hA (hr.mono (by decide)) (by rfl) T.m_law_draws T.F_law_draws.kp T.b_law_draws (takes_of rfl rfl rfl rfl) (da_cons (de_var 0) da_nil)))
  (dss_cons (ds_for (passes_of rfl) rfl (di_rng1 (by rfl) T.n_range (da_cons de_int da_nil)) (dg_name sc_law.nd (i := 2) rfl (Or.inl rfl))
  (dss_cons (ds_set (i := 3) sc_law.nd rfl (Or.inl rfl) (de_call (ok_law_program T) hA (hr.mono (by decide)) (by rfl) T.m_law_program T.F_law_program.kp T.b_law_program (takes_of rfl rfl rfl rfl) (da_cons (de_var 1) da_nil)))
  (dss_cons (ds_par (i := 4) (j := 5) rfl sc_law.nd rfl rfl (by decide) rfl rfl (da_cons (de_callB (cRepr hA (hu70 hr)) (by rfl) T.n_repr (by decide +kernel) (da_cons (de_var 3) da_nil)) (da_cons (de_call (ok_law_deepest T) hA (hr.mono (by decide)) (by rfl) T.m_law_deepest T.F_law_deepest.kp T.b_law_deepest (takes_of rfl rfl rfl rfl) (da_cons (de_var 3) da_nil)) da_nil)) (by rfl))
  (dss_one (ds_if (DW.pt (dw_or (dt_cmp (oNe (hu64 hr)) (de_callB (cRepr hA (hu70 hr)) (by rfl) T.n_repr (by decide +kernel) (da_cons (de_lst (da_cons (de_call (ok_depth T) hA (hr.mono (by decide)) (by rfl) T.m_depth T.F_depth.kp T.b_depth (takes_of rfl rfl rfl rfl) (da_cons (de_var 3) da_nil)) (da_cons (de_callK0 (ok_depth T) hA (hr.mono (by decide)) (by rfl) T.m_depth T.F_depth.kp T.kb_depth_0_program (takes_of rfl rfl rfl rfl) (dk_cons (de_var 3) dk_nil)) da_nil))) da_nil)) (de_callB (cRepr hA (hu70 hr)) (by rfl) T.n_repr (by decide +kernel) (da_cons (de_lst (da_cons (de_var 5) (da_cons (de_var 5) da_nil))) da_nil)) (nomark _)) (dw_or1 (dt_cmp (oNe (hu64 hr)) (de_callB (cRepr hA (hu70 hr)) (by rfl) T.n_repr (by decide +kernel) (da_cons (de_var 3) da_nil)) (de_var 4) (nomark _)))))
  (dss_one (ds_ret de_bl))
  dss_nil)))))
  (dss_one (ds_ret de_bl))))), vc_law⟩
end
theorem all_mk {l : PySem.W.OpenLaw} {w : World} {K : PySem.W.Frag} {h : Heap} {mg : Str → Option Value} {fa : Addr} (X : K.In h) (G : h.Ns mainGlobals mg) (hfa : mg "law" = some (.ref fa))
    {f_law_draws : Addr} {od_law_draws an_law_draws : Option Addr} {sl_law_draws : Array (Option Value)} {oc_law_draws kV_law_draws dc_law_draws pm_law_draws cd_law_draws ct_law_draws : Value}
    {f_law_next : Addr} {od_law_next an_law_next : Option Addr} {sl_law_next : Array (Option Value)} {oc_law_next kV_law_next dc_law_next pm_law_next cd_law_next ct_law_next : Value}
    {f_law_one : Addr} {od_law_one an_law_one : Option Addr} {sl_law_one : Array (Option Value)} {oc_law_one kV_law_one dc_law_one pm_law_one cd_law_one ct_law_one : Value}
    {f_law_program : Addr} {od_law_program an_law_program : Option Addr} {sl_law_program : Array (Option Value)} {oc_law_program kV_law_program dc_law_program pm_law_program cd_law_program ct_law_program : Value}
    {f_law_deepest : Addr} {od_law_deepest an_law_deepest : Option Addr} {sl_law_deepest : Array (Option Value)} {oc_law_deepest kV_law_deepest dc_law_deepest pm_law_deepest cd_law_deepest ct_law_deepest : Value}
    {f_depth : Addr} {od_depth an_depth : Option Addr} {sl_depth : Array (Option Value)} {oc_depth kV_depth dc_depth pm_depth cd_depth ct_depth : Value}
    {f_law : Addr} {od_law an_law : Option Addr} {sl_law : Array (Option Value)} {oc_law kV_law dc_law pm_law cd_law ct_law : Value}
    (a_law_draws : PySem.W.nsIn K mainGlobals "_law_draws" = some (some (.ref f_law_draws)))
    (l_law_draws : K.lookup f_law_draws = some ⟨oc_law_draws, od_law_draws, .func (PySem.W.fnOf "_law_draws" "_law_draws" (defArgs s_law_draws) (defBody s_law_draws) (defScope s_law_draws) .none kV_law_draws dc_law_draws pm_law_draws an_law_draws cd_law_draws ct_law_draws), sl_law_draws⟩)
    (c_law_draws : PySem.W.codeIn K cd_law_draws "_law_draws" = true) (k_law_draws : PySem.W.keepIn K (.ref f_law_draws) = true)
    (a_law_next : PySem.W.nsIn K mainGlobals "_law_next" = some (some (.ref f_law_next)))
    (l_law_next : K.lookup f_law_next = some ⟨oc_law_next, od_law_next, .func (PySem.W.fnOf "_law_next" "_law_next" (defArgs s_law_next) (defBody s_law_next) (defScope s_law_next) .none kV_law_next dc_law_next pm_law_next an_law_next cd_law_next ct_law_next), sl_law_next⟩)
    (c_law_next : PySem.W.codeIn K cd_law_next "_law_next" = true) (k_law_next : PySem.W.keepIn K (.ref f_law_next) = true)
    (a_law_one : PySem.W.nsIn K mainGlobals "_law_one" = some (some (.ref f_law_one)))
    (l_law_one : K.lookup f_law_one = some ⟨oc_law_one, od_law_one, .func (PySem.W.fnOf "_law_one" "_law_one" (defArgs s_law_one) (defBody s_law_one) (defScope s_law_one) .none kV_law_one dc_law_one pm_law_one an_law_one cd_law_one ct_law_one), sl_law_one⟩)
    (c_law_one : PySem.W.codeIn K cd_law_one "_law_one" = true) (k_law_one : PySem.W.keepIn K (.ref f_law_one) = true)
    (a_law_program : PySem.W.nsIn K mainGlobals "_law_program" = some (some (.ref f_law_program)))
    (l_law_program : K.lookup f_law_program = some ⟨oc_law_program, od_law_program, .func (PySem.W.fnOf "_law_program" "_law_program" (defArgs s_law_program) (defBody s_law_program) (defScope s_law_program) .none kV_law_program dc_law_program pm_law_program an_law_program cd_law_program ct_law_program), sl_law_program⟩)
    (c_law_program : PySem.W.codeIn K cd_law_program "_law_program" = true) (k_law_program : PySem.W.keepIn K (.ref f_law_program) = true)
    (a_law_deepest : PySem.W.nsIn K mainGlobals "_law_deepest" = some (some (.ref f_law_deepest)))
    (l_law_deepest : K.lookup f_law_deepest = some ⟨oc_law_deepest, od_law_deepest, .func (PySem.W.fnOf "_law_deepest" "_law_deepest" (defArgs s_law_deepest) (defBody s_law_deepest) (defScope s_law_deepest) .none kV_law_deepest dc_law_deepest pm_law_deepest an_law_deepest cd_law_deepest ct_law_deepest), sl_law_deepest⟩)
    (c_law_deepest : PySem.W.codeIn K cd_law_deepest "_law_deepest" = true) (k_law_deepest : PySem.W.keepIn K (.ref f_law_deepest) = true)
    (a_depth : PySem.W.nsIn K mainGlobals "depth" = some (some (.ref f_depth)))
    (l_depth : K.lookup f_depth = some ⟨oc_depth, od_depth, .func (PySem.W.fnOf "depth" "depth" (defArgs s_depth) (defBody s_depth) (defScope s_depth) .none kV_depth dc_depth pm_depth an_depth cd_depth ct_depth), sl_depth⟩)
    (c_depth : PySem.W.codeIn K cd_depth "depth" = true) (k_depth : PySem.W.keepIn K (.ref f_depth) = true)
    (a_law : PySem.W.nsIn K mainGlobals "law" = some (some (.ref f_law)))
    (l_law : K.lookup f_law = some ⟨oc_law, od_law, .func (PySem.W.fnOf "law" "law" (defArgs s_law) (defBody s_law) (defScope s_law) .none kV_law dc_law pm_law an_law cd_law ct_law), sl_law⟩)
    (c_law : PySem.W.codeIn K cd_law "law" = true) (k_law : PySem.W.keepIn K (.ref f_law) = true)
    (n_range : PySem.W.nsIn K mainGlobals "range" = some none)
    (n_repr : PySem.W.nsIn K mainGlobals "repr" = some none)
    (n_len : PySem.W.nsIn K mainGlobals "len" = some none)
    (n_abs : PySem.W.nsIn K mainGlobals "abs" = some none)
    (n_int : PySem.W.nsIn K mainGlobals "int" = some none)
    (n_tuple : PySem.W.nsIn K mainGlobals "tuple" = some none)
    (n_max : PySem.W.nsIn K mainGlobals "max" = some none) :
    ∃ fd : FuncData, (∀ (s : Shared) (v : Value), BindsTo s fd ⟨[v], []⟩ [("_law_script", v)]) ∧ ∀ base : Heap, K.In base → base.Ns mainGlobals mg → FnG l.prog w K mg base 4 fa fd ["_law_script"] (spLaw 63) := by
  have e := hfa.symm.trans (PySem.W.mg_of X G a_law)
  cases e
  have F_law_draws := fun_mk (st := s_law_draws) l_law_draws c_law_draws k_law_draws
  have b_law_draws := F_law_draws.binds (ps := ["_law_script"]) fun _ _ _ _ _ _ us hl => match us, hl with | [_], _ => rfl
  have F_law_next := fun_mk (st := s_law_next) l_law_next c_law_next k_law_next
  have b_law_next := F_law_next.binds (ps := ["_law_drawn", "_law_many"]) fun _ _ _ _ _ _ us hl => match us, hl with | [_, _], _ => rfl
  have F_law_one := fun_mk (st := s_law_one) l_law_one c_law_one k_law_one
  have b_law_one := F_law_one.binds (ps := ["_law_drawn", "_law_items"]) fun _ _ _ _ _ _ us hl => match us, hl with | [_, _], _ => rfl
  have F_law_program := fun_mk (st := s_law_program) l_law_program c_law_program k_law_program
  have b_law_program := F_law_program.binds (ps := ["_law_drawn"]) fun _ _ _ _ _ _ us hl => match us, hl with | [_], _ => rfl
  have F_law_deepest := fun_mk (st := s_law_deepest) l_law_deepest c_law_deepest k_law_deepest
  have b_law_deepest := F_law_deepest.binds (ps := ["_law_made"]) fun _ _ _ _ _ _ us hl => match us, hl with | [_], _ => rfl
  have F_depth := fun_mk (st := s_depth) l_depth c_depth k_depth
  have b_depth := F_depth.binds (ps := ["program"]) fun _ _ _ _ _ _ us hl => match us, hl with | [_], _ => rfl
  have F_law := fun_mk (st := s_law) l_law c_law k_law
  have b_law := F_law.binds (ps := ["_law_script"]) fun _ _ _ _ _ _ us hl => match us, hl with | [_], _ => rfl
  have kb_depth_0_program := fun_kbd F_depth (ps := ["program"]) (n := 0) (ks := ["program"]) (perm := [0]) fun _ _ _ _ _ _ us ws h1 h2 => match us, ws, h1, h2 with | [], [_], _, _ => rfl
  let T : Txt K mg := {
    f_law_draws := f_law_draws, fd_law_draws := _, F_law_draws := F_law_draws, m_law_draws := PySem.W.mg_of X G a_law_draws, b_law_draws := b_law_draws,
    f_law_next := f_law_next, fd_law_next := _, F_law_next := F_law_next, m_law_next := PySem.W.mg_of X G a_law_next, b_law_next := b_law_next,
    f_law_one := f_law_one, fd_law_one := _, F_law_one := F_law_one, m_law_one := PySem.W.mg_of X G a_law_one, b_law_one := b_law_one,
    f_law_program := f_law_program, fd_law_program := _, F_law_program := F_law_program, m_law_program := PySem.W.mg_of X G a_law_program, b_law_program := b_law_program,
    f_law_deepest := f_law_deepest, fd_law_deepest := _, F_law_deepest := F_law_deepest, m_law_deepest := PySem.W.mg_of X G a_law_deepest, b_law_deepest := b_law_deepest,
    f_depth := f_depth, fd_depth := _, F_depth := F_depth, m_depth := PySem.W.mg_of X G a_depth, b_depth := b_depth,
    f_law := fa, fd_law := _, F_law := F_law, m_law := PySem.W.mg_of X G a_law, b_law := b_law,
    kb_depth_0_program := kb_depth_0_program,
    n_range := PySem.W.mg_none_of X G n_range,
    n_repr := PySem.W.mg_none_of X G n_repr,
    n_len := PySem.W.mg_none_of X G n_len,
    n_abs := PySem.W.mg_none_of X G n_abs,
    n_int := PySem.W.mg_none_of X G n_int,
    n_tuple := PySem.W.mg_none_of X G n_tuple,
    n_max := PySem.W.mg_none_of X G n_max }
  exact ⟨_, fun s v => .of_eq rfl, fun base _ _ => ok_law T⟩
end LW
open PySem PySem.W PyProof.Rows
set_option maxRecDepth 100000 in
set_option maxHeartbeats 0 in
theorem PySem.Challenge.cw_everyround_k43_depth_holds : PySem.Challenge.rw_everyround_k43_depth.Holds := by
  w_on; o_law; k_head; (case hw => w_witness2)
  k_fill
  refine DL.walkG (l := PySem.Challenge.rw_everyround_k43_depth) (n := 63) (k := 4) (x := "_law_script") rfl (by decide) rfl ⟨rfl, by decide, by decide⟩ (fun w h Y => PySem.W.kIn_of Y) ?F
  case F =>
    intro w mg fa h KX G hmg
    refine' LW.all_mk KX G hmg ?a_law_draws ?l_law_draws ?c_law_draws ?k_law_draws ?a_law_next ?l_law_next ?c_law_next ?k_law_next ?a_law_one ?l_law_one ?c_law_one ?k_law_one ?a_law_program ?l_law_program ?c_law_program ?k_law_program ?a_law_deepest ?l_law_deepest ?c_law_deepest ?k_law_deepest ?a_depth ?l_depth ?c_depth ?k_depth ?a_law ?l_law ?c_law ?k_law ?n_range ?n_repr ?n_len ?n_abs ?n_int ?n_tuple ?n_max
    (case a_law_draws => k_is)
    (case l_law_draws => k_is)
    (case c_law_draws => k_is)
    (case k_law_draws => k_is)
    (case a_law_next => k_is)
    (case l_law_next => k_is)
    (case c_law_next => k_is)
    (case k_law_next => k_is)
    (case a_law_one => k_is)
    (case l_law_one => k_is)
    (case c_law_one => k_is)
    (case k_law_one => k_is)
    (case a_law_program => k_is)
    (case l_law_program => k_is)
    (case c_law_program => k_is)
    (case k_law_program => k_is)
    (case a_law_deepest => k_is)
    (case l_law_deepest => k_is)
    (case c_law_deepest => k_is)
    (case k_law_deepest => k_is)
    (case a_depth => k_is)
    (case l_depth => k_is)
    (case c_depth => k_is)
    (case k_depth => k_is)
    (case a_law => k_is)
    (case l_law => k_is)
    (case c_law => k_is)
    (case k_law => k_is)
    (case n_range => k_is)
    (case n_repr => k_is)
    (case n_len => k_is)
    (case n_abs => k_is)
    (case n_int => k_is)
    (case n_tuple => k_is)
    (case n_max => k_is)
#print axioms PySem.Challenge.cw_everyround_k43_depth_holds
