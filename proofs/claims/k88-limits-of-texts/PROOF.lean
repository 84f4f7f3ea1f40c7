import PyProof.Rows.All
import Wide.All
import OpenK.AllK
import Wide.FinOn
import HandS.ForMost
import HandS.ForExc
import HandS.Wide
import HandS.Flow
import HandS.TryMany
import HandS.IsInst
import HandS.WideBits
import HandS.TupAny
import HandS.More
import HandS.Deep
import HandS.Comp
import HandS.EndBits
import HandS.TupMul
import HandS.Dict
import HandS.Style
import HandS.Star
import OpenK.KOps
import OpenK.KMeth
import HandS.Property
import HandS.Small
import HandS.ExcInit
import HandS.FStr
import HandS.Text
import HandS.TryOnly
import HandS.SortInts
import HandS.ExcIs
import KE.GoesMore
import PyProof.EnumMake
import HandS.ClsMeth
import HandS.SetKeys
import HandS.SuiteRaise
import HandS.RaiseFrom
import HandS.ExcInitHot
import HandS.OwnEq
import PyProof.FactsAll.dict_1
import PyProof.FactsAll.NoneType_1
import PyProof.ListStr
import HandS.Conv
import PyProof.FactsAll.int_1
import PyProof.FactsAll.int_3
import PyProof.FactsAll.int_5
import HandS.Zip
import HandS.ExcOwn
import HandS.StrSplit
import PyProof.StrOps2
import PySem.Challenge.RW_everyround_k88_limits_of_texts
set_option Elab.async false
set_option linter.all false
set_option maxRecDepth 100000
set_option maxHeartbeats 4000000
namespace DL
open PySem PySem.Spec PyProof.Rows L2
open PySem.W (Frag)

/-- data: tuples, frozen lists, frozen objects and frozen dicts by value; what may change by its address -/
inductive D where
  | non | bl (b : Bool) | int (i : Int) | str (x : Str)
  | tup (xs : List D) | lst (xs : List D) | wls (xs : List D)
  | obj (c : Str) (ns : List Str) (vs : List D)
  | dct (ks vs : List D)
  | ref (a : Addr) | ty (n : String) | gv (n : Str)
  | xe (a dd : Addr) (ns : List Str) (vs : List D)
/-- what stands at an address that may change -/
inductive HOD where
  | lst (xs : List D) | ins (c : Str) (ns : List Str) (vs : List D) | dK (kvs : List (Key × D)) | dT (kvs : List (List Key × D))
abbrev HH := Addr → Option HOD

/-- what the text's own global name n holds: a def, a class -/
def gaddr (K : Frag) (n : Str) : Option Addr := match PySem.W.nsIn K mainGlobals n with
  | some (some (.ref a)) => some a
  | _ => none
theorem gaddr_of {K : Frag} {n : Str} {a : Addr} (h : PySem.W.nsIn K mainGlobals n = some (some (.ref a))) : gaddr K n = some a := by unfold gaddr; rw [h]
def kD : Key → D
  | .inl i => .int i
  | .inr x => .str x

/-- a tuple that is read: tracked and frozen, or written -/
def FT (K : Frag) (H : Hp) (G : HH) (a : Addr) (xs : List V) : Prop := (H a = some (.tup xs) ∧ G a = none) ∨
  ∃ (o : Obj) (its : Array Value) (n : Nat), K.lookup a = some o ∧ o.cls = .type "tuple" ∧ o.data = .seq its n ∧ its.size ≤ sizeLine ∧ Vals xs its.toList
theorem FT.sq {K H G a xs} (h : FT K H G a xs) : SqT K H a xs := h.elim (fun z => .inl (.inl z.1)) .inr
/-- a list that nobody may change: the script, a list of the written part -/
def FW (K : Frag) (H : Hp) (G : HH) (a : Addr) (xs : List V) : Prop := (Rd H a (.lst xs) ∧ G a = none) ∨
  ∃ (o : Obj) (its : Array Value) (n : Nat), K.lookup a = some o ∧ o.cls = .type "list" ∧ o.dict = none ∧ o.data = .seq its n ∧ its.size ≤ sizeLine ∧ Vals xs its.toList
theorem FW.sq {K H G a xs} (h : FW K H G a xs) : SqL K H a xs := h.elim (fun z => .inl z.1) .inr

mutual
inductive Rp (K : Frag) (H : Hp) (G : HH) : D → V → Prop
  | non : Rp K H G .non .non
  | bl (b : Bool) : Rp K H G (.bl b) (.bl b)
  | int (i : Int) : Rp K H G (.int i) (.int i)
  | str (x : Str) : Rp K H G (.str x) (.str x)
  | ty (n : String) : Rp K H G (.ty n) (.ty n)
  | ref (a : Addr) : Rp K H G (.ref a) (.ref a)
  | tup {a : Addr} {xs : List V} {ds : List D} : FT K H G a xs → Rps K H G ds xs → Rp K H G (.tup ds) (.ref a)
  | lst {a : Addr} {xs : List V} {ds : List D} : H a = some (.lst xs) → G a = none → Rps K H G ds xs → Rp K H G (.lst ds) (.ref a)
  | wls {a : Addr} {xs : List V} {ds : List D} : FW K H G a xs → Rps K H G ds xs → Rp K H G (.wls ds) (.ref a)
  | gv {a : Addr} {n : Str} : gaddr K n = some a → Rp K H G (.gv n) (.ref a)
  | obj {a dx C : Addr} {c : Str} {ns : List Str} {xs : List V} {ds : List D} : gaddr K c = some C → H a = some (.ins C dx (ns.zip xs)) → G a = none → ns.length = xs.length → Rps K H G ds xs → Rp K H G (.obj c ns ds) (.ref a)
  | xe {a dd : Addr} {ns : List Str} {xs : List V} {ds : List D} : H dd = some (.xd (ns.zip xs)) → G dd = none → ns.length = xs.length → Rps K H G ds xs → Rp K H G (.xe a dd ns ds) (.ref a)
  | dK {a : Addr} {kvs : List (Key × V)} {ks ds : List D} : Rd H a (.dK kvs) → G a = none → ks = kvs.map (fun p => kD p.1) → Rps K H G ds (kvs.map (·.2)) → Rp K H G (.dct ks ds) (.ref a)
  | dT {a : Addr} {kvs : List (List Key × V)} {ks ds : List D} : Rd H a (.dT kvs) → G a = none → ks = kvs.map (fun p => D.tup (p.1.map kD)) → Rps K H G ds (kvs.map (·.2)) → Rp K H G (.dct ks ds) (.ref a)
inductive Rps (K : Frag) (H : Hp) (G : HH) : List D → List V → Prop
  | nil : Rps K H G [] []
  | cons {d : D} {v : V} {ds : List D} {vs : List V} : Rp K H G d v → Rps K H G ds vs → Rps K H G (d :: ds) (v :: vs)
end

/-- kinds that a lock may not touch -/
def plainO : HO → Bool
  | .dK _ => false
  | .dT _ => false
  | .frz _ _ => false
  | .set _ _ => false
  | _ => true
/-- a step: what was frozen stays, nothing that stood thaws -/
structure Stp (H : Hp) (G : HH) (H' : Hp) (G' : HH) : Prop where
  keep : ∀ b o, H b = some o → G b = none → plainO o = true → H' b = some o
  keepR : ∀ b o, Rd H b o → G b = none → Rd H' b o
  dom : ∀ b, H b ≠ none → G b = none → G' b = none
theorem rd_ne {H : Hp} {a : Addr} {o : HO} (h : Rd H a o) : H a ≠ none := by
  rcases h with h | ⟨_, h⟩ <;> rw [h] <;> simp
theorem ne_none {H : Hp} {a : Addr} {o : HO} (h : H a = some o) : H a ≠ none := by rw [h]; simp
theorem Stp.refl {H G} : Stp H G H G := ⟨fun _ _ h _ _ => h, fun _ _ h _ => h, fun _ _ h => h⟩
theorem Stp.there {H G H' G'} (s : Stp H G H' G') {b} (h : H b ≠ none) (g : G b = none) : H' b ≠ none := by
  cases e : H b with
  | none => exact absurd e h
  | some o => exact rd_ne (s.keepR b o (.inl e) g)
theorem Stp.trans {H G H1 G1 H2 G2} (a : Stp H G H1 G1) (b : Stp H1 G1 H2 G2) : Stp H G H2 G2 :=
  ⟨fun c o h g p => b.keep c o (a.keep c o h g p) (a.dom c (ne_none h) g) p, fun c o h g => b.keepR c o (a.keepR c o h g) (a.dom c (rd_ne h) g), fun c h g => b.dom c (a.there h g) (a.dom c h g)⟩
theorem FT.mono {K H G H' G' a xs} (s : Stp H G H' G') (h : FT K H G a xs) : FT K H' G' a xs :=
  h.elim (fun z => .inl ⟨s.keep _ _ z.1 z.2 rfl, s.dom _ (ne_none z.1) z.2⟩) .inr
theorem FW.mono {K H G H' G' a xs} (s : Stp H G H' G') (h : FW K H G a xs) : FW K H' G' a xs :=
  h.elim (fun z => .inl ⟨s.keepR _ _ z.1 z.2, s.dom _ (rd_ne z.1) z.2⟩) .inr
mutual
theorem Rp.mono {K H G H' G'} (s : Stp H G H' G') : ∀ {d v}, Rp K H G d v → Rp K H' G' d v
  | _, _, .non => .non
  | _, _, .bl b => .bl b
  | _, _, .int i => .int i
  | _, _, .str x => .str x
  | _, _, .ty n => .ty n
  | _, _, .ref a => .ref a
  | _, _, .tup h r => .tup (h.mono s) (Rps.mono s r)
  | _, _, .lst h g r => .lst (s.keep _ _ h g rfl) (s.dom _ (ne_none h) g) (Rps.mono s r)
  | _, _, .wls h r => .wls (h.mono s) (Rps.mono s r)
  | _, _, .gv h => .gv h
  | _, _, .obj hc h g e r => .obj hc (s.keep _ _ h g rfl) (s.dom _ (ne_none h) g) e (Rps.mono s r)
  | _, _, .xe h g e r => .xe (s.keep _ _ h g rfl) (s.dom _ (ne_none h) g) e (Rps.mono s r)
  | _, _, .dK h g e r => .dK (s.keepR _ _ h g) (s.dom _ (rd_ne h) g) e (Rps.mono s r)
  | _, _, .dT h g e r => .dT (s.keepR _ _ h g) (s.dom _ (rd_ne h) g) e (Rps.mono s r)
theorem Rps.mono {K H G H' G'} (s : Stp H G H' G') : ∀ {ds vs}, Rps K H G ds vs → Rps K H' G' ds vs
  | _, _, .nil => .nil
  | _, _, .cons a r => .cons (Rp.mono s a) (Rps.mono s r)
end
theorem Rps.length {K H G} : ∀ {ds vs}, Rps K H G ds vs → ds.length = vs.length
  | _, _, .nil => rfl
  | _, _, .cons _ r => by simp [Rps.length r]
theorem Rps.get {K H G} : ∀ {ds : List D} {vs : List V} {i : Nat} {d : D}, Rps K H G ds vs → ds[i]? = some d → ∃ v, vs[i]? = some v ∧ Rp K H G d v
  | _, _, _, _, .nil, e => by simp at e
  | _, _, 0, _, .cons a _, e => by simp at e; subst e; exact ⟨_, rfl, a⟩
  | _, _, i + 1, d, .cons _ r, e => by
    obtain ⟨v, h1, h2⟩ := Rps.get (i := i) (d := d) r (by simpa using e)
    exact ⟨v, by simpa using h1, h2⟩
theorem Rps.append {K H G} : ∀ {ds es : List D} {vs ws : List V}, Rps K H G ds vs → Rps K H G es ws → Rps K H G (ds ++ es) (vs ++ ws)
  | _, _, _, _, .nil, s => s
  | _, _, _, _, .cons r t, s => .cons r (Rps.append t s)
theorem Rps.take {K H G} : ∀ {ds : List D} {vs : List V} (n : Nat), Rps K H G ds vs → Rps K H G (ds.take n) (vs.take n)
  | _, _, 0, _ => by simp; exact .nil
  | _, _, _ + 1, .nil => .nil
  | _, _, n + 1, .cons r t => .cons r (Rps.take n t)
theorem Rps.drop {K H G} : ∀ {ds : List D} {vs : List V} (n : Nat), Rps K H G ds vs → Rps K H G (ds.drop n) (vs.drop n)
  | _, _, 0, r => r
  | _, _, _ + 1, .nil => .nil
  | _, _, n + 1, .cons r t => Rps.drop n t
theorem Rps.set {K H G} {d : D} {v : V} (r : Rp K H G d v) : ∀ {ds : List D} {vs : List V} (i : Nat), Rps K H G ds vs → Rps K H G (ds.set i d) (vs.set i v)
  | _, _, _, .nil => .nil
  | _, _, 0, .cons _ t => .cons r t
  | _, _, i + 1, .cons q t => .cons q (Rps.set r i t)
theorem Rps.ints {K H G} : ∀ {ns : List Int} {vs : List V}, Rps K H G (ns.map D.int) vs → vs = ns.map V.int
  | [], _, .nil => rfl
  | n :: ns, _, .cons a r => by cases a; rw [Rps.ints r]; rfl
theorem Rps.of_ints {K H G} : ∀ (ns : List Int), Rps K H G (ns.map D.int) (ns.map V.int)
  | [] => .nil
  | n :: ns => .cons (.int n) (Rps.of_ints ns)
theorem Rps.strs {K H G} : ∀ {ns : List Str} {vs : List V}, Rps K H G (ns.map D.str) vs → vs = ns.map V.str
  | [], _, .nil => rfl
  | n :: ns, _, .cons a r => by cases a; rw [Rps.strs r]; rfl
theorem Rps.of_strs {K H G} : ∀ (ns : List Str), Rps K H G (ns.map D.str) (ns.map V.str)
  | [] => .nil
  | n :: ns => .cons (.str n) (Rps.of_strs ns)
theorem Rps.bls {K H G} : ∀ {ns : List Bool} {vs : List V}, Rps K H G (ns.map D.bl) vs → vs = ns.map V.bl
  | [], _, .nil => rfl
  | n :: ns, _, .cons a r => by cases a; rw [Rps.bls r]; rfl

/-- the heap of what may change -/
def HR (K : Frag) (H : Hp) (G : HH) (p : Addr) : HOD → Prop
  | .lst ds => ∃ xs, H p = some (.lst xs) ∧ Rps K H G ds xs
  | .ins c ns ds => ∃ C dx xs, gaddr K c = some C ∧ H p = some (.ins C dx (ns.zip xs)) ∧ ns.length = xs.length ∧ Rps K H G ds xs
  | .dK kvs => ∃ xs : List (Key × V), H p = some (.dK xs) ∧ kvs.map (·.1) = xs.map (·.1) ∧ Rps K H G (kvs.map (·.2)) (xs.map (·.2))
  | .dT kvs => ∃ xs : List (List Key × V), H p = some (.dT xs) ∧ kvs.map (·.1) = xs.map (·.1) ∧ Rps K H G (kvs.map (·.2)) (xs.map (·.2))
def RelH (K : Frag) (H : Hp) (G : HH) : Prop := ∀ p o, G p = some o → HR K H G p o
theorem HR.ne {K H G p o} (h : HR K H G p o) : H p ≠ none := by
  cases o with
  | lst ds => obtain ⟨_, e, _⟩ := h; rw [e]; simp
  | ins C ns ds => obtain ⟨_, _, _, _, e, _⟩ := h; rw [e]; simp
  | dK kvs => obtain ⟨_, e, _⟩ := h; rw [e]; simp
  | dT kvs => obtain ⟨_, e, _⟩ := h; rw [e]; simp
theorem RelH.free {K H G p} (h : RelH K H G) (e : H p = none) : G p = none := by
  cases q : G p with
  | none => rfl
  | some o => exact absurd e (h p o q).ne
/-- the slots -/
abbrev SD := List (Option D)
structure SRp (K : Frag) (H : Hp) (G : HH) (σD : SD) (σ : L2.St) : Prop where
  len : σD.length = σ.length
  at_ : ∀ (i : Nat) (d : D), σD[i]? = some (some d) → ∃ v, σ[i]? = some (some v) ∧ Rp K H G d v
theorem SRp.mono {K : Frag} {H G H' G'} {σD : SD} {σ : L2.St} (s : Stp H G H' G') (h : SRp K H G σD σ) : SRp K H' G' σD σ :=
  ⟨h.len, fun i d e => let ⟨v, e1, r⟩ := h.at_ i d e; ⟨v, e1, r.mono s⟩⟩
theorem SRp.set {K : Frag} {H G} {σD : SD} {σ : L2.St} {d : D} {v : V} (h : SRp K H G σD σ) (i : Nat) (r : Rp K H G d v) : SRp K H G (σD.set i (some d)) (σ.set i (some v)) := by
  refine ⟨by simp [h.len], fun j e he => ?_⟩
  by_cases hj : i = j
  · subst hj
    have hlt : i < σD.length := by
      have := (List.getElem?_eq_some_iff.mp he).1
      simpa using this
    rw [List.getElem?_set_self hlt] at he
    cases he
    exact ⟨v, List.getElem?_set_self (by rw [← h.len]; exact hlt), r⟩
  · rw [List.getElem?_set_ne hj] at he
    obtain ⟨u, e1, r1⟩ := h.at_ j e he
    exact ⟨u, by rw [List.getElem?_set_ne hj]; exact e1, r1⟩

/-- an exception: its class by name, its fields -/
inductive XC where
  | own (n : Str) | bi (n : String)
structure XD where
  cls : XC
  ns : List Str
  vs : List D
def XC.is (K : Frag) : XC → Value → Prop
  | .own n, v => ∃ C, gaddr K n = some C ∧ v = .ref C
  | .bi n, v => v = .type n
def XRp (K : Frag) (H : Hp) (G : HH) (x : XD) (cls : Value) (d : Option Addr) : Prop := x.cls.is K cls ∧
  match d with
  | none => x.ns = [] ∧ x.vs = []
  | some a => ∃ xs, H a = some (.xd (x.ns.zip xs)) ∧ G a = none ∧ x.ns.length = xs.length ∧ Rps K H G x.vs xs
abbrev QD := D → HH → Prop
abbrev ED := XD → HH → Prop
abbrev TED := SD → HH → QD → ED → Prop
abbrev TTD := SD → HH → (Bool → HH → Prop) → ED → Prop
abbrev TAD := SD → HH → (List D → HH → Prop) → ED → Prop
/-- where an exception may go -/
def Exs (K : Frag) (W : WX) (σ : L2.St) (H : Hp) (G : HH) (E : ED) : Prop := ∀ x cls d H' G', Stp H G H' G' → RelH K H' G' → XRp K H' G' x cls d → E x G' → W cls d σ H'
theorem Exs.mono {K W σ H G H' G' E} (s : Stp H G H' G') (h : Exs K W σ H G E) : Exs K W σ H' G' E := fun x cls d H2 G2 s2 r2 p2 e2 => h x cls d H2 G2 (s.trans s2) r2 p2 e2
/-- what follows a value -/
def Ct (K : Frag) (H : Hp) (G : HH) (Q : VK) (QD : QD) : Prop := ∀ v H' d G', Stp H G H' G' → RelH K H' G' → Rp K H' G' d v → QD d G' → Q v H'
theorem Ct.mono {K H G H' G' Q QD} (s : Stp H G H' G') (h : Ct K H G Q QD) : Ct K H' G' Q QD := fun v H2 d G2 s2 r2 p2 q2 => h v H2 d G2 (s.trans s2) r2 p2 q2
theorem Ct.now {K H G Q QD d v} (h : Ct K H G Q QD) (r : RelH K H G) (p : Rp K H G d v) (q : QD d G) : Q v H := h v H d G Stp.refl r p q
def lft (K : Frag) (W : WX) (t : TED) : TE := fun σ H Q => ∃ σD G QD E, RelH K H G ∧ SRp K H G σD σ ∧ t σD G QD E ∧ Ct K H G Q QD ∧ Exs K W σ H G E
def lftT (K : Frag) (W : WX) (t : TTD) : TT := fun σ H Q => ∃ σD G QD E, RelH K H G ∧ SRp K H G σD σ ∧ t σD G QD E ∧ (∀ b H' G', Stp H G H' G' → RelH K H' G' → QD b G' → Q b H') ∧ Exs K W σ H G E
def lftA (K : Frag) (W : WX) (t : TAD) : TA := fun σ H Q => ∃ σD G QD E, RelH K H G ∧ SRp K H G σD σ ∧ t σD G QD E ∧ (∀ vs H' ds G', Stp H G H' G' → RelH K H' G' → Rps K H' G' ds vs → QD ds G' → Q vs H') ∧ Exs K W σ H G E
/-- the judgements over data -/
def DE (X : Cx) (W : WX) (e : Expr) (t : TED) : Prop := PE X e (lft X.K W t)
def DT (X : Cx) (W : WX) (e : Expr) (t : TTD) : Prop := PT X e (lftT X.K W t)
def DW (X : Cx) (W : WX) (e : Expr) (t : TTD) : Prop := PW X e (lftT X.K W t)
def DA (X : Cx) (W : WX) (es : List Expr) (t : TAD) : Prop := PA X es (lftA X.K W t)
theorem PE.imp {X : Cx} {e : Expr} {t t' : TE} (h : PE X e t) (i : ∀ σ H Q, t' σ H Q → t σ H Q) : PE X e t' := ⟨fun pins s σ H Q I q => h.run pins s σ H Q I (i σ H Q q)⟩
theorem PT.imp {X : Cx} {e : Expr} {t t' : TT} (h : PT X e t) (i : ∀ σ H Q, t' σ H Q → t σ H Q) : PT X e t' := ⟨fun pins s σ H Q I q => h.run pins s σ H Q I (i σ H Q q)⟩
theorem PW.imp {X : Cx} {e : Expr} {t t' : TT} (h : PW X e t) (i : ∀ σ H Q, t' σ H Q → t σ H Q) : PW X e t' := ⟨fun wh pins s σ H Q I q => h.run wh pins s σ H Q I (i σ H Q q)⟩
theorem PA.imp {X : Cx} {es : List Expr} {t t' : TA} (h : PA X es t) (i : ∀ σ H Q, t' σ H Q → t σ H Q) : PA X es t' := ⟨fun pos pins s σ H Q I q => h.run pos pins s σ H Q I (i σ H Q q)⟩

/-! ### names, constants -/
def dVar (i : Nat) : TED := fun σ G Q _ => ∃ d, σ[i]? = some (some d) ∧ Q d G
def dC (d : D) : TED := fun _ G Q _ => Q d G
variable {X : Cx} {W : WX}
theorem de_var (i : Nat) {x : Str} {pos : Pos} (hN : X.N[i]? = some x := by rfl) (hv : Vis X.env.scope x := by first | exact Or.inl rfl | exact Or.inr (Or.inl rfl) | exact Or.inr (Or.inr rfl)) (hd : (x == ("__debug__" : Str)) = false := by decide)
    (hcd : (x == ("__classdict__" : Str)) = false := by decide) : DE X W (.Name x pos) (dVar i) :=
  PE.imp (pe_var hN hv hd hcd) fun σ H Q ⟨σD, G, QD, E, hR, hS, ⟨d, e, q⟩, hq, he⟩ => by
    obtain ⟨v, ev, r⟩ := hS.at_ i d e
    exact ⟨v, ev, hq.now hR r q⟩
theorem lft_C {K W d v σ H Q} (r : ∀ H G, Rp K H G d v) (h : lft K W (dC d) σ H Q) : tC v σ H Q := by
  obtain ⟨σD, G, QD, E, hR, hS, q, hq, he⟩ := h
  exact hq.now hR (r H G) q
theorem de_int {i j pos} : DE X W (.Constant (.int i) j pos) (dC (.int i)) := PE.imp pe_int fun _ _ _ => lft_C fun _ _ => .int i
theorem de_bl {i j pos} : DE X W (.Constant (.bool i) j pos) (dC (.bl i)) := PE.imp pe_bl fun _ _ _ => lft_C fun _ _ => .bl i
theorem de_non {j pos} : DE X W (.Constant .none j pos) (dC .non) := PE.imp pe_non fun _ _ _ => lft_C fun _ _ => .non
theorem de_str {x j pos} : DE X W (.Constant (.str x) j pos) (dC (.str x)) := PE.imp pe_str fun _ _ _ => lft_C fun _ _ => .str x
/-- a global name's value -/
theorem de_glob {x : Str} {d : D} {v : V} {u : Value} {pos : Pos} (r : ∀ H G, Rp X.K H G d v) (hg : Gl X x) (hm : X.mg x = some u) (ru : RelV v u) (hd : (x == ("__debug__" : Str)) = false := by decide) : DE X W (.Name x pos) (dC d) :=
  PE.imp (pe_glob hg hm ru hd) fun _ _ _ => lft_C r

/-! ### operators by values -/
def OpSim (K : Frag) (r : R2) (rD : D → D → HH → QD → Prop) : Prop := ∀ x y H Q dx dy G QD, RelH K H G → Rp K H G dx x → Rp K H G dy y → rD dx dy G QD → Ct K H G Q QD → r x y H Q
def dOp (rD : D → D → HH → QD → Prop) (ta tb : TED) : TED := fun σ G Q E => ta σ G (fun x G1 => tb σ G1 (fun y G2 => rD x y G2 Q) E) E
theorem lft_op {K : Frag} {W : WX} {r rD ta tb σ H Q} (sim : OpSim K r rD) (h : lft K W (dOp rD ta tb) σ H Q) : tOp r (lft K W ta) (lft K W tb) σ H Q := by
  obtain ⟨σD, G, QD, E, hR, hS, ht, hq, he⟩ := h
  refine ⟨σD, G, _, E, hR, hS, ht, fun v1 H1 d1 G1 s1 r1 p1 q1 => ?_, he⟩
  refine ⟨σD, G1, _, E, r1, hS.mono s1, q1, fun v2 H2 d2 G2 s2 r2 p2 q2 => ?_, he.mono s1⟩
  exact sim _ _ _ _ _ _ _ _ r2 (p1.mono s2) p2 q2 (hq.mono (s1.trans s2))
theorem OpSim.or {K r r' rD rD'} (h : OpSim K r rD) (h' : OpSim K r' rD') : OpSim K (fun x y H Q => r x y H Q ∨ r' x y H Q) (fun x y G Q => rD x y G Q ∨ rD' x y G Q) :=
  fun x y H Q dx dy G QD hR px py q hq => q.elim (fun z => .inl (h x y H Q dx dy G QD hR px py z hq)) fun z => .inr (h' x y H Q dx dy G QD hR px py z hq)
/-- operators on two ints -/
def oI (C : Int → Int → Prop) (g : Int → Int → D) : D → D → HH → QD → Prop := fun x y G Q => ∃ i j, x = .int i ∧ y = .int j ∧ C i j ∧ Q (g i j) G
theorem sim_I {K : Frag} {C : Int → Int → Prop} {g : Int → Int → V} {gD : Int → Int → D} (hg : ∀ i j H G, Rp K H G (gD i j) (g i j)) : OpSim K (rI C g) (oI C gD) := fun x y H Q dx dy G QD hR px py q hq => by
  obtain ⟨i, j, rfl, rfl, c, q⟩ := q
  cases px; cases py
  exact ⟨i, j, rfl, rfl, c, hq.now hR (hg i j H G) q⟩
theorem sim_I0 {K : Frag} {g : Int → Int → V} {gD : Int → Int → D} (hg : ∀ i j H G, Rp K H G (gD i j) (g i j)) : OpSim K (rI0 g) (oI (fun _ _ => True) gD) := fun x y H Q dx dy G QD hR px py q hq => by
  obtain ⟨i, j, rfl, rfl, c, q⟩ := q
  cases px; cases py
  exact ⟨i, j, rfl, rfl, hq.now hR (hg i j H G) q⟩
end DL

namespace DL
open PySem PySem.Spec PyProof.Rows L2
open PySem.W (Frag)

/-! ### changes of the heaps -/
def gput (G : HH) (p : Addr) (o : HOD) : HH := fun b => if b = p then some o else G b
def gdel (G : HH) (p : Addr) : HH := fun b => if b = p then none else G b
theorem gput_same {G p o} : gput G p o p = some o := by unfold gput; rw [if_pos rfl]
theorem gput_ne {G : HH} {p b : Addr} {o} (h : b ≠ p) : gput G p o b = G b := by unfold gput; rw [if_neg h]
theorem gdel_same {G p} : gdel G p p = none := by unfold gdel; rw [if_pos rfl]
theorem gdel_ne {G : HH} {p b : Addr} (h : b ≠ p) : gdel G p b = G b := by unfold gdel; rw [if_neg h]
theorem gput_gput {G p o o'} : gput (gput G p o) p o' = gput G p o' := by
  funext b; unfold gput; split <;> rfl
theorem rd_new {H : Hp} {p b : Addr} {o u : HO} (hn : H p = none) (h : Rd H b u) : Rd (upd H p o) b u := by
  have hb : b ≠ p := fun e => rd_ne h (by rw [e]; exact hn)
  rcases h with h | ⟨o', h⟩
  · exact .inl (by rw [upd_ne hb]; exact h)
  · exact .inr ⟨o', by rw [upd_ne hb]; exact h⟩
/-- a new object, frozen at once -/
theorem Stp.new {H G p o} (hn : H p = none) : Stp H G (upd H p o) G :=
  ⟨fun b u h _ _ => by rw [upd_ne (ne_of_none h hn)]; exact h, fun b u h _ => rd_new hn h, fun b _ g => g⟩
theorem HR.at {K H G H' G' p o} (h : HR K H G p o) (s : Stp H G H' G') (e : H' p = H p) : HR K H' G' p o := by
  cases o with
  | lst ds => obtain ⟨xs, h1, r⟩ := h; exact ⟨xs, by rw [e]; exact h1, r.mono s⟩
  | ins c ns ds => obtain ⟨C, dx, xs, hc, h1, l, r⟩ := h; exact ⟨C, dx, xs, hc, by rw [e]; exact h1, l, r.mono s⟩
  | dK kvs => obtain ⟨xs, h1, l, r⟩ := h; exact ⟨xs, by rw [e]; exact h1, l, r.mono s⟩
  | dT kvs => obtain ⟨xs, h1, l, r⟩ := h; exact ⟨xs, by rw [e]; exact h1, l, r.mono s⟩
theorem RelH.new {K H G p o} (h : RelH K H G) (hn : H p = none) : RelH K (upd H p o) G := fun q u e =>
  (h q u e).at (Stp.new hn) (upd_ne fun z => (h q u e).ne (by rw [z]; exact hn))
/-- a new object that may change -/
theorem Stp.newM {H G p o od} (hn : H p = none) : Stp H G (upd H p o) (gput G p od) :=
  ⟨fun b u h _ _ => by rw [upd_ne (ne_of_none h hn)]; exact h, fun b u h _ => rd_new hn h, fun b hb g => by
    rw [gput_ne (fun z => hb (by rw [z]; exact hn))]; exact g⟩
theorem RelH.newM {K H G p o od} (h : RelH K H G) (hn : H p = none) (hr : HR K (upd H p o) (gput G p od) p od) : RelH K (upd H p o) (gput G p od) := fun q u e => by
  by_cases hq : q = p
  · subst hq; rw [gput_same] at e; cases e; exact hr
  · rw [gput_ne hq] at e
    exact (h q u e).at (Stp.newM hn) (upd_ne hq)
/-- a change -/
theorem Stp.put {H G p o od o0} (hp : G p = some o0) : Stp H G (upd H p o) (gput G p od) := by
  have ne : ∀ b, G b = none → b ≠ p := fun b g e => by rw [e, hp] at g; cases g
  refine ⟨fun b u h g _ => by rw [upd_ne (ne b g)]; exact h, fun b u h g => ?_, fun b _ g => by rw [gput_ne (ne b g)]; exact g⟩
  rcases h with h | ⟨o', h⟩
  · exact .inl (by rw [upd_ne (ne b g)]; exact h)
  · exact .inr ⟨o', by rw [upd_ne (ne b g)]; exact h⟩
theorem RelH.put {K H G p o od o0} (h : RelH K H G) (hp : G p = some o0) (hr : HR K (upd H p o) (gput G p od) p od) : RelH K (upd H p o) (gput G p od) := fun q u e => by
  by_cases hq : q = p
  · subst hq; rw [gput_same] at e; cases e; exact hr
  · rw [gput_ne hq] at e
    exact (h q u e).at (Stp.put hp) (upd_ne hq)
/-- freezing -/
theorem Stp.del {H G p} : Stp H G H (gdel G p) := ⟨fun _ _ h _ _ => h, fun _ _ h _ => h, fun b _ g => by
  by_cases hb : b = p
  · subst hb; exact gdel_same
  · rw [gdel_ne hb]; exact g⟩
theorem RelH.del {K H G p} (h : RelH K H G) : RelH K H (gdel G p) := fun q u e => by
  by_cases hq : q = p
  · subst hq; rw [gdel_same] at e; cases e
  · rw [gdel_ne hq] at e
    exact (h q u e).at Stp.del rfl

/-! ### displays -/
variable {X : Cx} {W : WX} {e a b c : Expr} {es : List Expr} {ta tb tc : TED} {t u : TAD} {pos : Pos}
def dNil : TAD := fun _ G Q _ => Q [] G
def dCons (ta : TED) (t : TAD) : TAD := fun σ G Q E => ta σ G (fun d G1 => t σ G1 (fun ds G2 => Q (d :: ds) G2) E) E
theorem da_nil : DA X W [] dNil := PA.imp pa_nil fun σ H Q ⟨σD, G, QD, E, hR, hS, q, hq, he⟩ => hq _ _ _ _ Stp.refl hR .nil q
theorem da_cons (ha : DE X W e ta) (hr : DA X W es t) (hs : starEach (e :: es) X.env = (false, eval e X.env) :: starEach es X.env := by rfl) : DA X W (e :: es) (dCons ta t) :=
  PA.imp (pa_cons ha hr hs) fun σ H Q ⟨σD, G, QD, E, hR, hS, q, hq, he⟩ => by
    refine ⟨σD, G, _, E, hR, hS, q, fun v1 H1 d1 G1 s1 r1 p1 q1 => ?_, he⟩
    refine ⟨σD, G1, _, E, r1, hS.mono s1, q1, fun vs H2 ds G2 s2 r2 p2 q2 => ?_, he.mono s1⟩
    exact hq _ _ _ _ (s1.trans s2) r2 (.cons (p1.mono s2) p2) q2
def dTup (t : TAD) : TED := fun σ G Q E => t σ G (fun ds G1 => ds.length ≤ sizeLine ∧ Q (.tup ds) G1) E
theorem de_tup {x1} (h : DA X W es t) : DE X W (.Tuple es x1 pos) (dTup t) :=
  PE.imp (pe_tup h) fun σ H Q ⟨σD, G, QD, E, hR, hS, q, hq, he⟩ => by
    refine ⟨σD, G, _, E, hR, hS, q, fun vs H1 ds G1 s1 r1 p1 ⟨l, q1⟩ => ⟨by rw [← p1.length]; exact l, fun p hp => ?_⟩, he⟩
    have s2 : Stp H1 G1 (upd H1 p (.tup vs)) G1 := .new hp
    exact hq _ _ _ _ (s1.trans s2) (r1.new hp) (.tup (.inl ⟨upd_same, r1.free hp⟩) (p1.mono s2)) q1
def dLst (t : TAD) : TED := fun σ G Q E => t σ G (fun ds G1 => ds.length ≤ sizeLine ∧ Q (.lst ds) G1) E
theorem de_lst {x1} (h : DA X W es t) : DE X W (.List es x1) (dLst t) :=
  PE.imp (pe_lst h) fun σ H Q ⟨σD, G, QD, E, hR, hS, q, hq, he⟩ => by
    refine ⟨σD, G, _, E, hR, hS, q, fun vs H1 ds G1 s1 r1 p1 ⟨l, q1⟩ => ⟨by rw [← p1.length]; exact l, fun p hp => ?_⟩, he⟩
    have s2 : Stp H1 G1 (upd H1 p (.lst vs)) G1 := .new hp
    exact hq _ _ _ _ (s1.trans s2) (r1.new hp) (.lst upd_same (r1.free hp) (p1.mono s2)) q1
/-- a list that will change -/
def dLstM (t : TAD) : TED := fun σ G Q E => t σ G (fun ds G1 => ds.length ≤ sizeLine ∧ ∀ p, G1 p = none → Q (.ref p) (gput G1 p (.lst ds))) E
theorem de_lstM {x1} (h : DA X W es t) : DE X W (.List es x1) (dLstM t) :=
  PE.imp (pe_lst h) fun σ H Q ⟨σD, G, QD, E, hR, hS, q, hq, he⟩ => by
    refine ⟨σD, G, _, E, hR, hS, q, fun vs H1 ds G1 s1 r1 p1 ⟨l, q1⟩ => ⟨by rw [← p1.length]; exact l, fun p hp => ?_⟩, he⟩
    have s2 : Stp H1 G1 (upd H1 p (.lst vs)) (gput G1 p (.lst ds)) := .newM hp
    exact hq _ _ _ _ (s1.trans s2) (r1.newM hp ⟨vs, upd_same, p1.mono s2⟩) (.ref p) (q1 p (r1.free hp))

/-! ### operators -/
def OpD (X : Cx) (f : Value → Value → Sem Value) (rD : D → D → HH → QD → Prop) : Prop := ∃ r, OpR X f r ∧ OpSim X.K r rD
theorem OpD.or {f r r'} (h : OpD X f r) (h' : OpD X f r') : OpD X f (fun x y G Q => r x y G Q ∨ r' x y G Q) :=
  let ⟨_, a1, a2⟩ := h; let ⟨_, b1, b2⟩ := h'; ⟨_, a1.or b1, a2.or b2⟩
theorem de_op {op : Operator} {rD} (o : OpD X (binaryOp op) rD) (ha : DE X W a ta) (hb : DE X W b tb) : DE X W (.BinOp a op b pos) (dOp rD ta tb) :=
  let ⟨_, h1, h2⟩ := o; PE.imp (pe_op h1 ha hb) fun _ _ _ => lft_op h2
theorem de_cmp {op : CmpOp} {rD} (o : OpD X (compareOp op) rD) (ha : DE X W a ta) (hb : DE X W b tb) (hm : behindInMarks op b = false) : DE X W (.Compare a [op] [b] pos) (dOp rD ta tb) :=
  let ⟨_, h1, h2⟩ := o; PE.imp (pe_cmpR h1 ha hb hm) fun _ _ _ => lft_op h2
/-- a value's reading as a test -/
def dTest (t : TED) : TTD := fun σ G Q E => t σ G (fun x G1 => ∃ k, x = .bl k ∧ Q k G1) E
theorem lft_test {t : TE} {tD : TED} {K : Frag} (i : ∀ σ H Q, lft K W tD σ H Q → t σ H Q) : ∀ σ H Q, lftT K W (dTest tD) σ H Q → tTest t σ H Q := fun σ H Q ⟨σD, G, QD, E, hR, hS, q, hq, he⟩ => by
  refine i σ H _ ⟨σD, G, _, E, hR, hS, q, fun v1 H1 d1 G1 s1 r1 p1 ⟨k, e, q1⟩ => ?_, he⟩
  subst e
  cases p1
  exact ⟨k, rfl, hq _ _ _ s1 r1 q1⟩
theorem dt_cmp {op : CmpOp} {rD} (o : OpD X (compareOp op) rD) (ha : DE X W a ta) (hb : DE X W b tb) (hm : behindInMarks op b = false) : DT X W (.Compare a [op] [b] pos) (dTest (dOp rD ta tb)) :=
  let ⟨_, h1, h2⟩ := o; PT.imp (pt_cmpR h1 ha hb hm) (lft_test fun _ _ _ => lft_op h2)
def dChain (r r' : D → D → HH → QD → Prop) (ta tb tc : TED) : TED := fun σ G Q E => ta σ G (fun x G1 => tb σ G1 (fun y G2 => r x y G2 fun z G3 => ∃ k, z = .bl k ∧ (if k = true then tc σ G3 (fun w G4 => r' y w G4 Q) E else Q (.bl false) G3)) E) E
theorem lft_chain {K : Frag} {r r' : R2} {rD rD' σ H Q} (sim : OpSim K r rD) (sim' : OpSim K r' rD') (h : lft K W (dChain rD rD' ta tb tc) σ H Q) : tChain r r' (lft K W ta) (lft K W tb) (lft K W tc) σ H Q := by
  obtain ⟨σD, G, QD, E, hR, hS, ht, hq, he⟩ := h
  refine ⟨σD, G, _, E, hR, hS, ht, fun v1 H1 d1 G1 s1 r1 p1 q1 => ?_, he⟩
  refine ⟨σD, G1, _, E, r1, hS.mono s1, q1, fun v2 H2 d2 G2 s2 r2 p2 q2 => ?_, he.mono s1⟩
  refine sim _ _ _ _ _ _ _ _ r2 (p1.mono s2) p2 q2 fun v3 H3 d3 G3 s3 r3 p3 ⟨k, e3, q3⟩ => ?_
  subst e3
  cases p3
  refine ⟨k, rfl, ?_⟩
  cases k with
  | true =>
    rw [if_pos rfl] at q3 ⊢
    refine ⟨σD, G3, _, E, r3, hS.mono ((s1.trans s2).trans s3), q3, fun v4 H4 d4 G4 s4 r4 p4 q4 => ?_, he.mono ((s1.trans s2).trans s3)⟩
    exact sim' _ _ _ _ _ _ _ _ r4 ((p2.mono s3).mono s4) p4 q4 (hq.mono (((s1.trans s2).trans s3).trans s4))
  | false =>
    rw [if_neg Bool.false_ne_true] at q3 ⊢
    exact hq _ _ _ _ ((s1.trans s2).trans s3) r3 (.bl false) q3
theorem de_chain {op op' : CmpOp} {rD rD'} (o : OpD X (compareOp op) rD) (o' : OpD X (compareOp op') rD') (ha : DE X W a ta) (hb : DE X W b tb) (hc : DE X W c tc)
    (hm : lastMarks [op, op'] [b, c] = false := by with_unfolding_all rfl) : DE X W (.Compare a [op, op'] [b, c] pos) (dChain rD rD' ta tb tc) :=
  let ⟨_, h1, h2⟩ := o; let ⟨_, h3, h4⟩ := o'; PE.imp (pe_chain h1 h3 ha hb hc hm) fun _ _ _ => lft_chain h2 h4
theorem dt_chain {op op' : CmpOp} {rD rD'} (o : OpD X (compareOp op) rD) (o' : OpD X (compareOp op') rD') (ha : DE X W a ta) (hb : DE X W b tb) (hc : DE X W c tc)
    (hm : lastMarks [op, op'] [b, c] = false := by with_unfolding_all rfl) : DT X W (.Compare a [op, op'] [b, c] pos) (dTest (dChain rD rD' ta tb tc)) :=
  let ⟨_, h1, h2⟩ := o; let ⟨_, h3, h4⟩ := o'; PT.imp (pt_chain h1 h3 ha hb hc hm) (lft_test fun _ _ _ => lft_chain h2 h4)
def dUn (r : D → HH → QD → Prop) (ta : TED) : TED := fun σ G Q E => ta σ G (fun x G1 => r x G1 Q) E
def uI (g : Int → D) : D → HH → QD → Prop := fun x G Q => ∃ i, x = .int i ∧ Q (g i) G
theorem de_neg (ha : DE X W a ta) : DE X W (.UnaryOp .USub a pos) (dUn (uI fun i => .int (-i)) ta) :=
  PE.imp (pe_un un_neg ha) fun σ H Q ⟨σD, G, QD, E, hR, hS, q, hq, he⟩ =>
    ⟨σD, G, _, E, hR, hS, q, fun v1 H1 d1 G1 s1 r1 p1 ⟨i, e, q1⟩ => by
      subst e; cases p1
      exact ⟨i, rfl, hq _ _ _ _ s1 r1 (.int _) q1⟩, he⟩

/-- a sequence that is read, and its items -/
inductive Sq (G : HH) : D → List D → Prop
  | tup (xs : List D) : Sq G (.tup xs) xs
  | lst (xs : List D) : Sq G (.lst xs) xs
  | wls (xs : List D) : Sq G (.wls xs) xs
  | ref {p : Addr} {xs : List D} : G p = some (.lst xs) → Sq G (.ref p) xs
/-- .. a list alone -/
inductive Ls (G : HH) : D → List D → Prop
  | lst (xs : List D) : Ls G (.lst xs) xs
  | ref {p : Addr} {xs : List D} : G p = some (.lst xs) → Ls G (.ref p) xs
theorem Sq.of {K H G d xs v} (s : Sq G d xs) (r : RelH K H G) (p : Rp K H G d v) : ∃ a vs, v = .ref a ∧ (SqL K H a vs ∨ SqT K H a vs) ∧ Rps K H G xs vs := by
  cases s with
  | tup => cases p with | tup h q => exact ⟨_, _, rfl, .inr h.sq, q⟩
  | lst => cases p with | lst h g q => exact ⟨_, _, rfl, .inl (SqL.of h), q⟩
  | wls => cases p with | wls h q => exact ⟨_, _, rfl, .inl h.sq, q⟩
  | ref e => cases p with | ref a => obtain ⟨vs, h, q⟩ := r _ _ e; exact ⟨_, vs, rfl, .inl (SqL.of h), q⟩
theorem Ls.of {K H G d xs v} (s : Ls G d xs) (r : RelH K H G) (p : Rp K H G d v) : ∃ a vs, v = .ref a ∧ H a = some (.lst vs) ∧ Rps K H G xs vs := by
  cases s with
  | lst => cases p with | lst h g q => exact ⟨_, _, rfl, h, q⟩
  | ref e => cases p with | ref a => obtain ⟨vs, h, q⟩ := r _ _ e; exact ⟨_, vs, rfl, h, q⟩
/-- a new frozen list of such values comes -/
theorem Ct.lst {K H G Q QD p vs ds} (h : Ct K H G Q QD) (r : RelH K H G) (hp : H p = none) (q : Rps K H G ds vs) (z : QD (.lst ds) G) : Q (.ref p) (upd H p (.lst vs)) :=
  h _ _ _ _ (Stp.new hp) (r.new hp) (.lst upd_same (r.free hp) (q.mono (Stp.new hp))) z
theorem Ct.tup {K H G Q QD p vs ds} (h : Ct K H G Q QD) (r : RelH K H G) (hp : H p = none) (q : Rps K H G ds vs) (z : QD (.tup ds) G) : Q (.ref p) (upd H p (.tup vs)) :=
  h _ _ _ _ (Stp.new hp) (r.new hp) (.tup (.inl ⟨upd_same, r.free hp⟩) (q.mono (Stp.new hp))) z

/-! + -/
def aStr : D → D → HH → QD → Prop := fun x y G Q => ∃ i j, x = .str i ∧ y = .str j ∧ i.length + j.length ≤ sizeLine ∧ Q (.str (i ++ j)) G
def aLst : D → D → HH → QD → Prop := fun x y G Q => ∃ xs ys, Ls G x xs ∧ Ls G y ys ∧ xs.length + ys.length ≤ sizeLine ∧ Q (.lst (xs ++ ys)) G
def aTup : D → D → HH → QD → Prop := fun x y G Q => ∃ xs ys, x = .tup xs ∧ y = .tup ys ∧ xs.length + ys.length ≤ sizeLine ∧ Q (.tup (xs ++ ys)) G
theorem oAddI : OpD X (binaryOp .Add) (oI (fun _ _ => True) fun i j => .int (i + j)) := ⟨_, op_add, sim_I0 fun i j _ _ => .int _⟩
theorem oAddStr : OpD X (binaryOp .Add) aStr := ⟨_, op_add_str, fun x y H Q dx dy G QD hR px py ⟨i, j, e1, e2, l, q⟩ hq => by
  subst e1; subst e2; cases px; cases py
  exact ⟨_, _, rfl, rfl, l, hq.now hR (.str _) q⟩⟩
theorem oAddLst : OpD X (binaryOp .Add) aLst := ⟨_, op_cat, fun x y H Q dx dy G QD hR px py ⟨xs, ys, e1, e2, l, q⟩ hq => by
  obtain ⟨a, vs, rfl, ha, ra⟩ := e1.of hR px
  obtain ⟨b, us, rfl, hb, rb⟩ := e2.of hR py
  exact ⟨_, _, _, _, rfl, rfl, ha, hb, by rw [← ra.length, ← rb.length]; exact l, fun p hp => hq.lst hR hp (ra.append rb) q⟩⟩
theorem oMulI : OpD X (binaryOp .Mult) (oI CMulX fun i j => .int (i * j)) := ⟨_, op_mulX, sim_I fun i j _ _ => .int _⟩
def mRep : D → D → HH → QD → Prop := fun x y G Q => ∃ xs k, Ls G x xs ∧ y = .int k ∧ -(2 ^ 63) ≤ k ∧ k < 2 ^ 63 ∧ xs.length * k.toNat ≤ sizeLine ∧ Q (.lst (List.replicate k.toNat xs).flatten) G
theorem Rps.rep {K H G ds vs} (r : Rps K H G ds vs) : ∀ n : Nat, Rps K H G (List.replicate n ds).flatten (List.replicate n vs).flatten
  | 0 => .nil
  | n + 1 => by rw [List.replicate_succ, List.replicate_succ, List.flatten_cons, List.flatten_cons]; exact r.append (Rps.rep r n)
theorem oMulL : OpD X (binaryOp .Mult) mRep := ⟨_, op_rep, fun x y H Q dx dy G QD hR px py ⟨xs, k, e1, e2, l1, l2, l, q⟩ hq => by
  subst e2; cases py
  obtain ⟨a, vs, rfl, ha, ra⟩ := e1.of hR px
  exact ⟨_, _, _, rfl, rfl, ha, l1, l2, by rw [← ra.length]; exact l, fun p hp => hq.lst hR hp (ra.rep _) q⟩⟩
theorem oSub : OpD X (binaryOp .Sub) (oI (fun _ _ => True) fun i j => .int (i - j)) := ⟨_, op_sub, sim_I0 fun i j _ _ => .int _⟩
theorem oDiv : OpD X (binaryOp .FloorDiv) (oI CDivW fun i j => .int (i / j)) := ⟨_, op_fdivW, sim_I fun i j _ _ => .int _⟩
theorem oDivN : OpD X (binaryOp .FloorDiv) (oI CDivN fun i j => .int (i.fdiv j)) := ⟨_, op_fdivN, sim_I fun i j _ _ => .int _⟩
theorem oMod : OpD X (binaryOp .Mod) (oI (fun _ j => 0 < j) fun i j => .int (i % j)) := ⟨_, op_mod, sim_I fun i j _ _ => .int _⟩
theorem oModN : OpD X (binaryOp .Mod) (oI (fun _ j => j ≠ 0) fun i j => .int (i.fmod j)) := ⟨_, op_modN, sim_I fun i j _ _ => .int _⟩
theorem oPow : OpD X (binaryOp .Pow) (oI CPow fun i j => .int (i ^ j.toNat)) := ⟨_, op_pow, sim_I fun i j _ _ => .int _⟩
theorem oShl : OpD X (binaryOp .LShift) (oI CShl fun i j => .int (i * 2 ^ j.toNat)) := ⟨_, op_shlW, sim_I fun i j _ _ => .int _⟩
theorem oAnd : OpD X (binaryOp .BitAnd) (oI (fun _ _ => True) fun i j => .int (Builtin.bitAnd i j)) := ⟨_, op_and, sim_I0 fun i j _ _ => .int _⟩
theorem oLt : OpD X (compareOp .Lt) (oI (fun _ _ => True) fun i j => .bl (decide (i < j))) := ⟨_, op_lt, sim_I0 fun i j _ _ => .bl _⟩
theorem oLe : OpD X (compareOp .LtE) (oI (fun _ _ => True) fun i j => .bl (decide (i ≤ j))) := ⟨_, op_le, sim_I0 fun i j _ _ => .bl _⟩
theorem oGt : OpD X (compareOp .Gt) (oI (fun _ _ => True) fun i j => .bl (decide (j < i))) := ⟨_, op_gt, sim_I0 fun i j _ _ => .bl _⟩
theorem oGe : OpD X (compareOp .GtE) (oI (fun _ _ => True) fun i j => .bl (decide (j ≤ i))) := ⟨_, op_ge, sim_I0 fun i j _ _ => .bl _⟩
end DL

namespace DL
open PySem PySem.Spec PyProof.Rows L2
open PySem.W (Frag)
variable {X : Cx} {W : WX} {e a b c : Expr} {es : List Expr} {ta tb tc : TED} {t u : TAD} {tA tB' : TTD} {pos : Pos} {rest : List Expr}

/-! ### scalars -/
def D.sc : D → Option V
  | .non => some .non
  | .bl b => some (.bl b)
  | .int i => some (.int i)
  | .str x => some (.str x)
  | _ => none
def scs : List D → Option (List V)
  | [] => some []
  | d :: r => match d.sc, scs r with
    | some v, some vs => some (v :: vs)
    | _, _ => none
theorem Rp.sc {K H G d v u} (p : Rp K H G d v) (h : d.sc = some u) : v = u := by
  cases d <;> simp [D.sc] at h <;> subst h <;> cases p <;> rfl
theorem Rps.scs {K H G} : ∀ {ds : List D} {vs us : List V}, Rps K H G ds vs → DL.scs ds = some us → vs = us
  | [], _, _, .nil, h => by simp [DL.scs] at h; exact h.symm
  | d :: ds, _, us, .cons p r, h => by
    unfold DL.scs at h
    split at h
    · rename_i v' vs' h1 h2
      cases h
      rw [p.sc h1, Rps.scs r h2]
    · cases h
theorem sc_flat {d : D} {u : V} (h : d.sc = some u) : flatV u = true := by
  cases d <;> simp [D.sc] at h <;> subst h <;> rfl
theorem scs_flat : ∀ {ds : List D} {us : List V}, scs ds = some us → us.all flatV = true
  | [], us, h => by simp [scs] at h; subst h; rfl
  | d :: ds, us, h => by
    unfold scs at h
    split at h
    · rename_i v' vs' h1 h2
      cases h
      simp [sc_flat h1]
      simpa using scs_flat h2
    · cases h
def eSc (neg : Bool) : D → D → HH → QD → Prop := fun x y G Q => ∃ u v, x.sc = some u ∧ y.sc = some v ∧ scal u v = true ∧ Q (.bl (if neg then !decide (u = v) else decide (u = v))) G
theorem oEqS : OpD X (compareOp .Eq) (eSc false) := ⟨_, op_eq, fun x y H Q dx dy G QD hR px py ⟨u, v, e1, e2, s, q⟩ hq => by
  cases px.sc e1; cases py.sc e2
  exact ⟨s, hq.now hR (.bl _) q⟩⟩
theorem oNeS : OpD X (compareOp .NotEq) (eSc true) := ⟨_, op_ne, fun x y H Q dx dy G QD hR px py ⟨u, v, e1, e2, s, q⟩ hq => by
  cases px.sc e1; cases py.sc e2
  exact ⟨s, hq.now hR (.bl _) q⟩⟩

/-! ### data of any depth -/
mutual
def D.py : D → Option PyData
  | .non => some .none
  | .bl b => some (.bool b)
  | .int i => some (.int i)
  | .str x => some (.str x)
  | .tup xs => (pys xs).map .tuple
  | .lst xs => (pys xs).map .list
  | .wls xs => (pys xs).map .list
  | .gv _ => none
  | .obj _ _ _ => none
  | .dct _ _ => none
  | .ref _ => none
  | .ty _ => none
  | .xe _ _ _ _ => none
def pys : List D → Option (List PyData)
  | [] => some []
  | d :: r => match d.py, pys r with
    | some p, some ps => some (p :: ps)
    | _, _ => none
end
mutual
theorem Rp.dp {K H G} : ∀ {d v p}, Rp K H G d v → d.py = some p → Dp K H v p
  | _, _, _, .non, h => by simp [D.py] at h; subst h; exact .non
  | _, _, _, .bl b, h => by simp [D.py] at h; subst h; exact .bl b
  | _, _, _, .int i, h => by simp [D.py] at h; subst h; exact .int i
  | _, _, _, .str x, h => by simp [D.py] at h; subst h; exact .str x
  | _, _, _, .ty n, h => by simp [D.py] at h
  | _, _, _, .ref a, h => by simp [D.py] at h
  | _, _, _, .tup f r, h => by
    unfold D.py at h
    cases e : pys _ with
    | none => rw [e] at h; simp at h
    | some ps => rw [e] at h; simp at h; subst h; exact .tup f.sq (Rps.dp r e)
  | _, _, _, .lst f g r, h => by
    unfold D.py at h
    cases e : pys _ with
    | none => rw [e] at h; simp at h
    | some ps => rw [e] at h; simp at h; subst h; exact .lst (SqL.of f) (Rps.dp r e)
  | _, _, _, .wls f r, h => by
    unfold D.py at h
    cases e : pys _ with
    | none => rw [e] at h; simp at h
    | some ps => rw [e] at h; simp at h; subst h; exact .lst f.sq (Rps.dp r e)
  | _, _, _, .gv _, h => by simp [D.py] at h
  | _, _, _, .obj _ _ _ _ _, h => by simp [D.py] at h
  | _, _, _, .xe _ _ _ _, h => by simp [D.py] at h
  | _, _, _, .dK _ _ _ _, h => by simp [D.py] at h
  | _, _, _, .dT _ _ _ _, h => by simp [D.py] at h
theorem Rps.dp {K H G} : ∀ {ds vs ps}, Rps K H G ds vs → pys ds = some ps → DpAll K H vs ps
  | _, _, _, .nil, h => by simp [pys] at h; subst h; exact .nil
  | _, _, _, .cons p r, h => by
    unfold pys at h
    split at h
    · rename_i p1 ps1 h1 h2
      cases h
      exact .cons (Rp.dp p h1) (Rps.dp r h2)
    · cases h
end
/-- data, or a list that may change, of data -/
inductive Py (G : HH) : D → PyData → Prop
  | of {d : D} {p : PyData} : d.py = some p → Py G d p
  | ref {a : Addr} {ds : List D} {ps : List PyData} : G a = some (.lst ds) → pys ds = some ps → Py G (.ref a) (.list ps)
theorem Py.dp {K H G d v p} (h : Py G d p) (r : RelH K H G) (q : Rp K H G d v) : Dp K H v p := by
  cases h with
  | of e => exact q.dp e
  | ref e1 e2 => cases q with | ref a => obtain ⟨vs, h, z⟩ := r _ _ e1; exact .lst (SqL.of h) (z.dp e2)
def ePy (neg : Bool) : D → D → HH → QD → Prop := fun x y G Q => ∃ d e, Py G x d ∧ Py G y e ∧ SeqAt.shaped d = true ∧ SeqAt.shaped e = true ∧ Q (.bl (if neg then !PyData.eqv d e else PyData.eqv d e)) G
theorem oEqP (hu : X.A.units + 64 < cLine) : OpD X (compareOp .Eq) (ePy false) := ⟨_, op_eqD hu, fun x y H Q dx dy G QD hR px py ⟨d, e, e1, e2, s1, s2, q⟩ hq => ⟨d, e, e1.dp hR px, e2.dp hR py, s1, s2, hq.now hR (.bl _) q⟩⟩
theorem oNeP (hu : X.A.units + 64 < cLine) : OpD X (compareOp .NotEq) (ePy true) := ⟨_, op_neD hu, fun x y H Q dx dy G QD hR px py ⟨d, e, e1, e2, s1, s2, q⟩ hq => ⟨d, e, e1.dp hR px, e2.dp hR py, s1, s2, hq.now hR (.bl _) q⟩⟩
/-- == and != of scalars or data -/
def eAny (neg : Bool) : D → D → HH → QD → Prop := fun x y G Q => eSc neg x y G Q ∨ ePy neg x y G Q
theorem oEq (hu : X.A.units + 64 < cLine) : OpD X (compareOp .Eq) (eAny false) := oEqS.or (oEqP hu)
theorem oNe (hu : X.A.units + 64 < cLine) : OpD X (compareOp .NotEq) (eAny true) := oNeS.or (oNeP hu)
/-- is None -/
def isN (neg : Bool) (ta : TED) : TED := fun σ G Q E => ta σ G (fun x G1 => ∃ k, (k = true → x = .non) ∧ (x = .non → k = true) ∧ Q (.bl (if neg then !k else k)) G1) E
theorem non_iff {K H G d v} (p : Rp K H G d v) {k : Bool} (h1 : k = true → d = .non) (h2 : d = .non → k = true) : decide (v = .non) = k := by
  by_cases e : d = .non
  · subst e; cases p; rw [h2 rfl]; simp
  · have hk : k = false := by cases k; rfl; exact absurd (h1 rfl) e
    rw [hk]
    refine decide_eq_false fun z => e ?_
    subst z; cases p; rfl
theorem de_isN {j pos'} (ha : DE X W a ta) : DE X W (.Compare a [.Is] [.Constant .none j pos'] pos) (isN false ta) :=
  PE.imp (pe_cmp (pc_isN ha)) fun σ H Q ⟨σD, G, QD, E, hR, hS, q, hq, he⟩ => ⟨σD, G, _, E, hR, hS, q, fun v1 H1 d1 G1 s1 r1 p1 ⟨k, k1, k2, q1⟩ => by
    dsimp only; rw [non_iff p1 k1 k2]; exact hq _ _ _ _ s1 r1 (.bl _) q1, he⟩
theorem de_notN {j pos'} (ha : DE X W a ta) : DE X W (.Compare a [.IsNot] [.Constant .none j pos'] pos) (isN true ta) :=
  PE.imp (pe_cmp (pc_notN ha)) fun σ H Q ⟨σD, G, QD, E, hR, hS, q, hq, he⟩ => ⟨σD, G, _, E, hR, hS, q, fun v1 H1 d1 G1 s1 r1 p1 ⟨k, k1, k2, q1⟩ => by
    dsimp only; rw [non_iff p1 k1 k2]; exact hq _ _ _ _ s1 r1 (.bl _) q1, he⟩
theorem dt_isN {j pos'} (ha : DE X W a ta) : DT X W (.Compare a [.Is] [.Constant .none j pos'] pos) (dTest (isN false ta)) :=
  PT.imp (pt_cmp (pc_isN ha)) (lft_test fun σ H Q ⟨σD, G, QD, E, hR, hS, q, hq, he⟩ => ⟨σD, G, _, E, hR, hS, q, fun v1 H1 d1 G1 s1 r1 p1 ⟨k, k1, k2, q1⟩ => by
    dsimp only; rw [non_iff p1 k1 k2]; exact hq _ _ _ _ s1 r1 (.bl _) q1, he⟩)
theorem dt_notN {j pos'} (ha : DE X W a ta) : DT X W (.Compare a [.IsNot] [.Constant .none j pos'] pos) (dTest (isN true ta)) :=
  PT.imp (pt_cmp (pc_notN ha)) (lft_test fun σ H Q ⟨σD, G, QD, E, hR, hS, q, hq, he⟩ => ⟨σD, G, _, E, hR, hS, q, fun v1 H1 d1 G1 s1 r1 p1 ⟨k, k1, k2, q1⟩ => by
    dsimp only; rw [non_iff p1 k1 k2]; exact hq _ _ _ _ s1 r1 (.bl _) q1, he⟩)

/-! ### in -/
def iSeq (neg : Bool) : D → D → HH → QD → Prop := fun x y G Q => ∃ xs u us, Sq G y xs ∧ x.sc = some u ∧ scs xs = some us ∧ Q (.bl (if neg then !inV u us else inV u us)) G
def iStr (neg : Bool) : D → D → HH → QD → Prop := fun x y G Q => ∃ i j, x = .str i ∧ y = .str j ∧ Q (.bl (if neg then !(!(Builtin.Str.occurrences j i 0 j.length 1).isEmpty) else !(Builtin.Str.occurrences j i 0 j.length 1).isEmpty)) G
theorem oInSeq : OpD X (compareOp .In) (iSeq false) := ⟨_, op_in_seq, fun x y H Q dx dy G QD hR px py ⟨xs, u, us, s, e1, e2, q⟩ hq => by
  obtain ⟨p, vs, rfl, h, r⟩ := s.of hR py
  cases px.sc e1; cases r.scs e2
  exact ⟨p, _, rfl, h, sc_flat e1, scs_flat e2, hq.now hR (.bl _) q⟩⟩
theorem oNotInSeq : OpD X (compareOp .NotIn) (iSeq true) := ⟨_, op_notIn_seq, fun x y H Q dx dy G QD hR px py ⟨xs, u, us, s, e1, e2, q⟩ hq => by
  obtain ⟨p, vs, rfl, h, r⟩ := s.of hR py
  cases px.sc e1; cases r.scs e2
  exact ⟨p, _, rfl, h, sc_flat e1, scs_flat e2, hq.now hR (.bl _) q⟩⟩
theorem oInStr : OpD X (compareOp .In) (iStr false) := ⟨_, op_in_str, fun x y H Q dx dy G QD hR px py ⟨i, j, e1, e2, q⟩ hq => by
  subst e1; subst e2; cases px; cases py
  exact ⟨_, _, rfl, rfl, hq.now hR (.bl _) q⟩⟩
theorem oNotInStr : OpD X (compareOp .NotIn) (iStr true) := ⟨_, op_notin_str, fun x y H Q dx dy G QD hR px py ⟨i, j, e1, e2, q⟩ hq => by
  subst e1; subst e2; cases px; cases py
  exact ⟨_, _, rfl, rfl, hq.now hR (.bl _) q⟩⟩
/-- in a list of any data -/
def iDat (neg : Bool) : D → D → HH → QD → Prop := fun x y G Q => ∃ d ds, Py G x d ∧ Py G y (.list ds) ∧ SeqAt.shaped d = true ∧ SeqAt.shaped (.list ds) = true ∧ Q (.bl (if neg then !ds.any fun z => PyData.eqv z d else ds.any fun z => PyData.eqv z d)) G
theorem oInDat (hu : X.A.units + 65 < cLine) : OpD X (compareOp .In) (iDat false) := ⟨_, op_inD hu, fun x y H Q dx dy G QD hR px py ⟨d, ds, e1, e2, s1, s2, q⟩ hq =>
  ⟨d, ds, e1.dp hR px, e2.dp hR py, s1, s2, hq.now hR (.bl _) q⟩⟩
theorem oNotInDat (hu : X.A.units + 65 < cLine) : OpD X (compareOp .NotIn) (iDat true) := ⟨_, op_notInD hu, fun x y H Q dx dy G QD hR px py ⟨d, ds, e1, e2, s1, s2, q⟩ hq =>
  ⟨d, ds, e1.dp hR px, e2.dp hR py, s1, s2, hq.now hR (.bl _) q⟩⟩
def iAny (neg : Bool) : D → D → HH → QD → Prop := fun x y G Q => iSeq neg x y G Q ∨ iStr neg x y G Q ∨ iDat neg x y G Q
theorem oIn (hu : X.A.units + 65 < cLine) : OpD X (compareOp .In) (iAny false) := oInSeq.or (oInStr.or (oInDat hu))
theorem oNotIn (hu : X.A.units + 65 < cLine) : OpD X (compareOp .NotIn) (iAny true) := oNotInSeq.or (oNotInStr.or (oNotInDat hu))

/-! ### and, or, not, if else -/
def dAndV (ta tb : TED) : TED := fun σ G Q E => ta σ G (fun x G1 => ∃ c, x = .bl c ∧ if c = true then tb σ G1 Q E else Q (.bl false) G1) E
def dOrV (ta tb : TED) : TED := fun σ G Q E => ta σ G (fun x G1 => ∃ c, x = .bl c ∧ if c = true then Q (.bl true) G1 else tb σ G1 Q E) E
def dNotV (ta : TED) : TED := fun σ G Q E => ta σ G (fun x G1 => ∃ c, x = .bl c ∧ Q (.bl (!c)) G1) E
theorem de_one {op} (h : DE X W a ta) : DE X W (.BoolOp op [a] pos) ta := pe_one h
theorem de_and (ha : DE X W a ta) (hb : DE X W (.BoolOp .And (b :: rest) pos) tb) : DE X W (.BoolOp .And (a :: b :: rest) pos) (dAndV ta tb) :=
  PE.imp (pe_and ha hb) fun σ H Q ⟨σD, G, QD, E, hR, hS, q, hq, he⟩ => ⟨σD, G, _, E, hR, hS, q, fun v1 H1 d1 G1 s1 r1 p1 ⟨k, e1, q1⟩ => by
    subst e1; cases p1
    refine ⟨k, rfl, ?_⟩
    cases k with
    | true => rw [if_pos rfl] at q1 ⊢; exact ⟨σD, G1, _, E, r1, hS.mono s1, q1, hq.mono s1, he.mono s1⟩
    | false => rw [if_neg Bool.false_ne_true] at q1 ⊢; exact hq _ _ _ _ s1 r1 (.bl _) q1, he⟩
theorem de_or (ha : DE X W a ta) (hb : DE X W (.BoolOp .Or (b :: rest) pos) tb) : DE X W (.BoolOp .Or (a :: b :: rest) pos) (dOrV ta tb) :=
  PE.imp (pe_or ha hb) fun σ H Q ⟨σD, G, QD, E, hR, hS, q, hq, he⟩ => ⟨σD, G, _, E, hR, hS, q, fun v1 H1 d1 G1 s1 r1 p1 ⟨k, e1, q1⟩ => by
    subst e1; cases p1
    refine ⟨k, rfl, ?_⟩
    cases k with
    | true => rw [if_pos rfl] at q1 ⊢; exact hq _ _ _ _ s1 r1 (.bl _) q1
    | false => rw [if_neg Bool.false_ne_true] at q1 ⊢; exact ⟨σD, G1, _, E, r1, hS.mono s1, q1, hq.mono s1, he.mono s1⟩, he⟩
theorem de_not (ha : DE X W a ta) : DE X W (.UnaryOp .Not a pos) (dNotV ta) :=
  PE.imp (pe_not ha) fun σ H Q ⟨σD, G, QD, E, hR, hS, q, hq, he⟩ => ⟨σD, G, _, E, hR, hS, q, fun v1 H1 d1 G1 s1 r1 p1 ⟨k, e1, q1⟩ => by
    subst e1; cases p1
    exact ⟨k, rfl, hq _ _ _ _ s1 r1 (.bl _) q1⟩, he⟩
def dAnd (t u : TTD) : TTD := fun σ G Q E => t σ G (fun c G1 => if c = true then u σ G1 Q E else Q false G1) E
def dOr (t u : TTD) : TTD := fun σ G Q E => t σ G (fun c G1 => if c = true then Q true G1 else u σ G1 Q E) E
def dNot (t : TTD) : TTD := fun σ G Q E => t σ G (fun c G1 => Q (!c) G1) E
theorem dw_and1 (ha : DT X W a tA) : DW X W (.BoolOp .And [a] pos) tA := pw_and1 ha
theorem dw_or1 (ha : DT X W a tA) : DW X W (.BoolOp .Or [a] pos) tA := pw_or1 ha
theorem dw_and (ha : DT X W a tA) (hb : DW X W (.BoolOp .And (b :: rest) pos) tB') : DW X W (.BoolOp .And (a :: b :: rest) pos) (dAnd tA tB') :=
  PW.imp (pw_and ha hb) fun σ H Q ⟨σD, G, QD, E, hR, hS, q, hq, he⟩ => ⟨σD, G, _, E, hR, hS, q, fun k H1 G1 s1 r1 q1 => by
    cases k with
    | true => rw [if_pos rfl] at q1 ⊢; exact ⟨σD, G1, _, E, r1, hS.mono s1, q1, fun b H2 G2 s2 r2 q2 => hq b H2 G2 (s1.trans s2) r2 q2, he.mono s1⟩
    | false => rw [if_neg Bool.false_ne_true] at q1 ⊢; exact hq _ _ _ s1 r1 q1, he⟩
theorem dw_or (ha : DT X W a tA) (hb : DW X W (.BoolOp .Or (b :: rest) pos) tB') : DW X W (.BoolOp .Or (a :: b :: rest) pos) (dOr tA tB') :=
  PW.imp (pw_or ha hb) fun σ H Q ⟨σD, G, QD, E, hR, hS, q, hq, he⟩ => ⟨σD, G, _, E, hR, hS, q, fun k H1 G1 s1 r1 q1 => by
    cases k with
    | true => rw [if_pos rfl] at q1 ⊢; exact hq _ _ _ s1 r1 q1
    | false => rw [if_neg Bool.false_ne_true] at q1 ⊢; exact ⟨σD, G1, _, E, r1, hS.mono s1, q1, fun b H2 G2 s2 r2 q2 => hq b H2 G2 (s1.trans s2) r2 q2, he.mono s1⟩, he⟩
theorem DW.pt {tA : TTD} (h : DW X W a tA) : DT X W a tA := PW.pt h
theorem dt_not (ha : DT X W a tA) : DT X W (.UnaryOp .Not a pos) (dNot tA) :=
  PT.imp (pt_not ha) fun σ H Q ⟨σD, G, QD, E, hR, hS, q, hq, he⟩ => ⟨σD, G, _, E, hR, hS, q, fun k H1 G1 s1 r1 q1 => hq _ _ _ s1 r1 q1, he⟩
def dIf (t : TTD) (ta tb : TED) : TED := fun σ G Q E => t σ G (fun c G1 => if c = true then ta σ G1 Q E else tb σ G1 Q E) E
theorem de_ifExp (hc : DT X W c tA) (ha : DE X W a ta) (hb : DE X W b tb) : DE X W (.IfExp c a b pos) (dIf tA ta tb) :=
  PE.imp (pe_ifExp hc ha hb) fun σ H Q ⟨σD, G, QD, E, hR, hS, q, hq, he⟩ => ⟨σD, G, _, E, hR, hS, q, fun k H1 G1 s1 r1 q1 => by
    cases k with
    | true => rw [if_pos rfl] at q1 ⊢; exact ⟨σD, G1, _, E, r1, hS.mono s1, q1, hq.mono s1, he.mono s1⟩
    | false => rw [if_neg Bool.false_ne_true] at q1 ⊢; exact ⟨σD, G1, _, E, r1, hS.mono s1, q1, hq.mono s1, he.mono s1⟩, he⟩
/-- the truth of a value -/
inductive Tru (G : HH) : D → Bool → Prop
  | non : Tru G .non false
  | bl (b : Bool) : Tru G (.bl b) b
  | int (i : Int) : Tru G (.int i) (i != 0)
  | str (x : Str) (h : x.length ≤ sizeLine) : Tru G (.str x) ((x.length : Int) != 0)
  | sq {d : D} {xs : List D} (h : Sq G d xs) : Tru G d (!xs.isEmpty)
theorem Tru.of {K H G d v k} (h : Tru G d k) (r : RelH K H G) (p : Rp K H G d v) : TruV K v H k := by
  cases h with
  | non => cases p; rfl
  | bl => cases p; rfl
  | int => cases p; rfl
  | str x h => cases p; exact ⟨h, rfl⟩
  | @sq d xs s =>
    obtain ⟨a, vs, rfl, h, q⟩ := s.of r p
    have e : (!vs.isEmpty) = !xs.isEmpty := by
      cases q <;> rfl
    rcases h with h | h
    · exact .inl ⟨vs, h, e.symm⟩
    · exact .inr (.inl ⟨vs, h, e.symm⟩)
def dTru (ta : TED) : TTD := fun σ G Q E => ta σ G (fun x G1 => ∃ k, Tru G1 x k ∧ Q k G1) E
theorem dt_tru (ha : DE X W a ta) (he : ∀ whole, isTrue a X.env whole = (do let v ← whole; standAt a.pos; holding [v] (truthy v)) := by intro _; rfl) : DT X W a (dTru ta) :=
  PT.imp (pt_truth ha he) fun σ H Q ⟨σD, G, QD, E, hR, hS, q, hq, he⟩ => ⟨σD, G, _, E, hR, hS, q, fun v1 H1 d1 G1 s1 r1 p1 ⟨k, k1, q1⟩ => ⟨k, k1.of r1 p1, hq _ _ _ s1 r1 q1⟩, he⟩

/-! ### items, slices -/
def xSq : D → D → HH → QD → Prop := fun x y G Q => ∃ xs i d, Sq G x xs ∧ y = .int i ∧ atI xs i = some d ∧ Q d G
def xStr : D → D → HH → QD → Prop := fun x y G Q => ∃ z i c, x = .str z ∧ y = .int i ∧ z.length ≤ sizeLine ∧ atI z.cps.toList i = some c ∧ Q (.str ⟨#[c]⟩) G
def xAny : D → D → HH → QD → Prop := fun x y G Q => xSq x y G Q ∨ xStr x y G Q
theorem Rps.atI {K H G ds vs i d} (r : Rps K H G ds vs) (h : L2.atI ds i = some d) : ∃ v, L2.atI vs i = some v ∧ Rp K H G d v := by
  unfold L2.atI at h ⊢
  rw [r.length] at h
  cases e : ixN vs.length i with
  | none => rw [e] at h; cases h
  | some j =>
    rw [e] at h
    exact r.get h
theorem sim_ix {K : Frag} : OpSim K (rIx K) xAny := fun x y H Q dx dy G QD hR px py q hq => by
  rcases q with ⟨xs, i, d, s, e2, h, q⟩ | ⟨z, i, c, e1, e2, l, h, q⟩
  · subst e2; cases py
    obtain ⟨p, vs, rfl, hs, r⟩ := s.of hR px
    obtain ⟨v, hv, rv⟩ := r.atI h
    rcases hs with hs | hs
    · exact .inl ⟨p, vs, i, v, rfl, rfl, hs, hv, hq.now hR rv q⟩
    · exact .inr (.inl ⟨p, vs, i, v, rfl, rfl, hs, hv, hq.now hR rv q⟩)
  · subst e1; subst e2; cases px; cases py
    exact .inr (.inr ⟨_, _, c, rfl, rfl, l, h, hq.now hR (.str _) q⟩)
theorem de_ix (ha : DE X W a ta) (hb : DE X W b tb) (hs : PlainIx b := by exact fun _ _ => rfl) : DE X W (.Subscript a b pos) (dOp xAny ta tb) :=
  PE.imp (pe_ix ix_seq ha hb hs) fun _ _ _ => lft_op sim_ix
def dcut (xs : List D) (lo hi : Option Int) : List D := (xs.drop (HT.sIx xs.length 0 lo)).take (HT.sIx xs.length xs.length hi - HT.sIx xs.length 0 lo)
theorem Rps.cut {K H G ds vs} (r : Rps K H G ds vs) (lo hi : Option Int) : Rps K H G (dcut ds lo hi) (cutV vs lo hi) := by
  unfold dcut cutV
  rw [r.length]
  exact (r.drop _).take _
abbrev TOD := SD → HH → (Option Int → HH → Prop) → ED → Prop
def lftO (K : Frag) (W : WX) (t : TOD) : TO := fun σ H Q => ∃ σD G QD E, RelH K H G ∧ SRp K H G σD σ ∧ t σD G QD E ∧ (∀ o H' G', Stp H G H' G' → RelH K H' G' → QD o G' → Q o H') ∧ Exs K W σ H G E
def DO (X : Cx) (W : WX) (e : Option Expr) (t : TOD) : Prop := PO X e (lftO X.K W t)
theorem PO.imp {X : Cx} {e : Option Expr} {t t' : TO} (h : PO X e t) (i : ∀ σ H Q, t' σ H Q → t σ H Q) : PO X e t' := ⟨fun pins s σ H Q I q => h.run pins s σ H Q I (i σ H Q q)⟩
def dNoPart : TOD := fun _ G Q _ => Q none G
def dPart (ta : TED) : TOD := fun σ G Q E => ta σ G (fun x G1 => ∃ i, x = .int i ∧ Q (some i) G1) E
theorem do_none : DO X W none dNoPart := PO.imp po_none fun σ H Q ⟨σD, G, QD, E, hR, hS, q, hq, he⟩ => hq _ _ _ Stp.refl hR q
theorem do_some (ha : DE X W a ta) : DO X W (some a) (dPart ta) := PO.imp (po_some ha) fun σ H Q ⟨σD, G, QD, E, hR, hS, q, hq, he⟩ =>
  ⟨σD, G, _, E, hR, hS, q, fun v1 H1 d1 G1 s1 r1 p1 ⟨i, e, q1⟩ => by subst e; cases p1; exact ⟨i, rfl, hq _ _ _ s1 r1 q1⟩, he⟩
/-- .. a list, whether it may change or not -/
inductive LsW (G : HH) : D → List D → Prop
  | lst (xs : List D) : LsW G (.lst xs) xs
  | wls (xs : List D) : LsW G (.wls xs) xs
  | ref {p : Addr} {xs : List D} : G p = some (.lst xs) → LsW G (.ref p) xs
theorem LsW.of {K H G d xs v} (s : LsW G d xs) (r : RelH K H G) (p : Rp K H G d v) : ∃ a vs, v = .ref a ∧ SqL K H a vs ∧ Rps K H G xs vs := by
  cases s with
  | lst => cases p with | lst h g q => exact ⟨_, _, rfl, SqL.of h, q⟩
  | wls => cases p with | wls h q => exact ⟨_, _, rfl, h.sq, q⟩
  | ref e => cases p with | ref a => obtain ⟨vs, h, q⟩ := r _ _ e; exact ⟨_, vs, rfl, SqL.of h, q⟩
/-- a slice: a list's, a tuple's, a text's -/
def slD : D → Option Int → Option Int → HH → QD → Prop := fun x lo hi G Q => (∃ xs, LsW G x xs ∧ Q (.lst (dcut xs lo hi)) G) ∨ (∃ xs, x = .tup xs ∧ Q (.tup (dcut xs lo hi)) G) ∨ ∃ z, x = .str z ∧ z.length ≤ sizeLine ∧ Q (.str (cutS z lo hi)) G
def dSl (ta : TED) (tl th : TOD) : TED := fun σ G Q E => ta σ G (fun x G1 => tl σ G1 (fun lo G2 => th σ G2 (fun hi G3 => slD x lo hi G3 Q) E) E) E
theorem cutV_whole {vs : List V} {lo hi} (h1 : HT.sIx vs.length 0 lo = 0) (h2 : HT.sIx vs.length vs.length hi = vs.length) : cutV vs lo hi = vs := by
  unfold cutV
  rw [h1, h2]
  simp
theorem de_sl {lo hi : Option Expr} {tl th : TOD} {p2} (ha : DE X W a ta) (hl : DO X W lo tl) (hh : DO X W hi th) : DE X W (.Subscript a (.Slice lo hi none p2) pos) (dSl ta tl th) :=
  PE.imp (pe_slice ((sl_list.or sl_tupA).or sl_str) ha hl hh) fun σ H Q ⟨σD, G, QD, E, hR, hS, q, hq, he⟩ => by
    refine ⟨σD, G, _, E, hR, hS, q, fun v1 H1 d1 G1 s1 r1 p1 q1 => ?_, he⟩
    refine ⟨σD, G1, _, E, r1, hS.mono s1, q1, fun o2 H2 G2 s2 r2 q2 => ?_, he.mono s1⟩
    refine ⟨σD, G2, _, E, r2, hS.mono (s1.trans s2), q2, fun o3 H3 G3 s3 r3 q3 => ?_, he.mono (s1.trans s2)⟩
    have p3 := (p1.mono s2).mono s3
    have hq3 := hq.mono ((s1.trans s2).trans s3)
    rcases q3 with ⟨xs, s, q3⟩ | ⟨xs, hx, q3⟩ | ⟨z, hx, l, q3⟩
    · obtain ⟨p, vs, rfl, hL, r⟩ := s.of r3 p3
      exact .inl (.inl ⟨p, vs, rfl, hL, fun q hq' => hq3.lst r3 hq' (r.cut _ _) q3⟩)
    · subst hx
      cases p3 with
      | tup f r =>
        refine .inl (.inr ⟨_, _, rfl, f.sq, fun hw => ?_, fun _ p hp => hq3.tup r3 hp (r.cut _ _) q3⟩)
        have e := cutV_whole hw.1 hw.2
        refine hq3.now r3 (.tup f ?_) q3
        have := r.cut o2 o3
        rw [e] at this
        exact this
    · subst hx; cases p3
      exact .inr ⟨_, rfl, l, hq3.now r3 (.str _) q3⟩
end DL

namespace DL
open PySem PySem.Spec PyProof.Rows L2
open PySem.W (Frag)
variable {X : Cx} {W : WX} {e a b c : Expr} {es : List Expr} {ta tb tc : TED} {t u : TAD} {tA tB' : TTD} {pos : Pos} {rest : List Expr}

/-! ### built-in functions by values -/
abbrev RCD := List D → HH → QD → Prop
def CallSim (K : Frag) (r : List V → Hp → VK → Prop) (rD : RCD) : Prop := ∀ xs H Q ds G QD, RelH K H G → Rps K H G ds xs → rD ds G QD → Ct K H G Q QD → r xs H Q
def CallD (X : Cx) (f : Value) (rD : RCD) : Prop := ∃ r, CallR X f r ∧ CallSim X.K r rD
theorem CallD.or {f r r'} (h : CallD X f r) (h' : CallD X f r') : CallD X f (fun x G Q => r x G Q ∨ r' x G Q) :=
  let ⟨_, a1, a2⟩ := h; let ⟨_, b1, b2⟩ := h'
  ⟨_, a1.or b1, fun xs H Q ds G QD hR hp q hq => q.elim (fun z => .inl (a2 _ _ _ _ _ _ hR hp z hq)) fun z => .inr (b2 _ _ _ _ _ _ hR hp z hq)⟩
def dCB (rD : RCD) (t : TAD) : TED := fun σ G Q E => t σ G (fun ds G1 => rD ds G1 Q) E
theorem lft_cb {K : Frag} {r rD σ H Q} (sim : CallSim K r rD) (h : lft K W (dCB rD t) σ H Q) : tCB r (lftA K W t) σ H Q := by
  obtain ⟨σD, G, QD, E, hR, hS, ht, hq, he⟩ := h
  exact ⟨σD, G, _, E, hR, hS, ht, fun vs H1 ds G1 s1 r1 p1 q1 => sim _ _ _ _ _ _ r1 p1 q1 (hq.mono s1), he⟩
theorem de_callB {id : String} {rD : RCD} {x : Str} {p : Pos} (hc : CallD X (.builtin id) rD) (hg : Gl X x) (hm : X.mg x = none) (hv : bootBuiltins x = some (.builtin id)) (ha : DA X W (e :: es) t) (hn : x ≠ "__name__" := by decide) (hdb : (x == ("__debug__" : Str)) = false := by decide)
    (he : starEach (e :: es) X.env = (false, eval e X.env) :: starEach es X.env := by rfl) (hpl : (backTo pos (starEach es X.env)).any (·.1) = false := by rfl) : DE X W (.Call (.Name x p) (e :: es) [] pos) (dCB rD t) :=
  let ⟨_, h1, h2⟩ := hc; PE.imp (pe_callB h1 hg hm hv ha hn hdb he hpl) fun _ _ _ => lft_cb h2
theorem de_callTy {T : String} {rD : RCD} {x : Str} {p : Pos} (hc : CallD X (.type T) rD) (hg : Gl X x) (hm : X.mg x = none) (hv : bootBuiltins x = some (.type T)) (ha : DA X W (e :: es) t) (hn : x ≠ "__name__" := by decide) (hdb : (x == ("__debug__" : Str)) = false := by decide)
    (he : starEach (e :: es) X.env = (false, eval e X.env) :: starEach es X.env := by rfl) (hpl : (backTo pos (starEach es X.env)).any (·.1) = false := by rfl) : DE X W (.Call (.Name x p) (e :: es) [] pos) (dCB rD t) :=
  let ⟨_, h1, h2⟩ := hc; PE.imp (pe_callTy h1 hg hm hv ha hn hdb he hpl) fun _ _ _ => lft_cb h2
theorem rps1 {K H G d xs} (h : Rps K H G [d] xs) : ∃ v, xs = [v] ∧ Rp K H G d v := by
  cases h with | cons a r => cases r; exact ⟨_, rfl, a⟩
theorem rps2 {K H G d e xs} (h : Rps K H G [d, e] xs) : ∃ v w, xs = [v, w] ∧ Rp K H G d v ∧ Rp K H G e w := by
  cases h with | cons a r => obtain ⟨w, rfl, b⟩ := rps1 r; exact ⟨_, w, rfl, a, b⟩
/-- a rule on one value -/
def c1 (r : D → HH → QD → Prop) : RCD := fun ds G Q => ∃ x, ds = [x] ∧ r x G Q
def c2 (r : D → D → HH → QD → Prop) : RCD := fun ds G Q => ∃ x y, ds = [x, y] ∧ r x y G Q
def kLenS : D → HH → QD → Prop := fun x G Q => ∃ xs, Sq G x xs ∧ Q (.int xs.length) G
def kLenT : D → HH → QD → Prop := fun x G Q => ∃ z, x = .str z ∧ z.length ≤ sizeLine ∧ Q (.int z.length) G
theorem cLenS : CallD X (.builtin "len") (c1 kLenS) := ⟨_, call_len_seq, fun xs H Q ds G QD hR hp ⟨x, e, xs', s, q⟩ hq => by
  subst e
  obtain ⟨v, rfl, p⟩ := rps1 hp
  obtain ⟨a, vs, rfl, h, r⟩ := s.of hR p
  exact ⟨a, vs, rfl, h, by rw [← r.length]; exact hq.now hR (.int _) q⟩⟩
theorem cLenT : CallD X (.builtin "len") (c1 kLenT) := ⟨_, call_len_str, fun xs H Q ds G QD hR hp ⟨x, e, z, ez, l, q⟩ hq => by
  subst e
  obtain ⟨v, rfl, p⟩ := rps1 hp
  subst ez
  cases p
  exact ⟨_, rfl, l, hq.now hR (.int _) q⟩⟩
def kLen : RCD := fun ds G Q => c1 kLenS ds G Q ∨ c1 kLenT ds G Q
theorem cLen : CallD X (.builtin "len") kLen := cLenS.or cLenT
def kI (g : Int → D) : D → HH → QD → Prop := fun x G Q => ∃ i, x = .int i ∧ Q (g i) G
def kAbs : RCD := c1 (kI fun i => .int (i.natAbs : Int))
theorem cAbs : CallD X (.builtin "abs") kAbs := ⟨_, call_abs, fun xs H Q ds G QD hR hp ⟨x, e, i, ei, q⟩ hq => by
  subst e
  obtain ⟨v, rfl, p⟩ := rps1 hp
  subst ei
  cases p
  refine ⟨i, rfl, hq.now hR (d := .int (i.natAbs : Int)) ?_ q⟩
  have : (if i < 0 then -i else i) = (i.natAbs : Int) := by split <;> omega
  rw [this]
  exact .int _⟩
def k2I (g : Int → Int → D) : D → D → HH → QD → Prop := fun x y G Q => ∃ i j, x = .int i ∧ y = .int j ∧ Q (g i j) G
def kMax2 : RCD := c2 (k2I fun i j => .int (max i j))
def kMin2 : RCD := c2 (k2I fun i j => .int (min i j))
theorem cMax2 (hc : X.calm = true) : CallD X (.builtin "max") kMax2 := ⟨_, call_max2 hc, fun xs H Q ds G QD hR hp ⟨x, y, e, i, j, ei, ej, q⟩ hq => by
  subst e
  obtain ⟨v, w, rfl, p, p'⟩ := rps2 hp
  subst ei; subst ej
  cases p; cases p'
  refine ⟨i, j, rfl, hq.now hR (d := .int (max i j)) ?_ q⟩
  have : (if j > i then j else i) = max i j := by split <;> omega
  rw [this]
  exact .int _⟩
theorem cMin2 (hc : X.calm = true) : CallD X (.builtin "min") kMin2 := ⟨_, call_min2 hc, fun xs H Q ds G QD hR hp ⟨x, y, e, i, j, ei, ej, q⟩ hq => by
  subst e
  obtain ⟨v, w, rfl, p, p'⟩ := rps2 hp
  subst ei; subst ej
  cases p; cases p'
  refine ⟨i, j, rfl, hq.now hR (d := .int (min i j)) ?_ q⟩
  have : (if j < i then j else i) = min i j := by split <;> omega
  rw [this]
  exact .int _⟩
def kInt : RCD := c1 fun x G Q => (∃ i, x = .int i ∧ Q (.int i) G) ∨ ∃ k, x = .bl k ∧ Q (.int (if k then 1 else 0)) G
theorem cInt : CallD X (.type "int") kInt := ⟨_, call_int1, fun xs H Q ds G QD hR hp ⟨x, e, q⟩ hq => by
  subst e
  obtain ⟨v, rfl, p⟩ := rps1 hp
  rcases q with ⟨i, ei, q⟩ | ⟨i, ei, q⟩ <;> subst ei <;> cases p
  · exact .inl ⟨i, rfl, hq.now hR (.int _) q⟩
  · exact .inr ⟨i, rfl, hq.now hR (.int _) q⟩⟩
def kBool : RCD := c1 fun x G Q => (∃ i, x = .int i ∧ Q (.bl (i != 0)) G) ∨ ∃ k, x = .bl k ∧ Q (.bl k) G
theorem cBool : CallD X (.type "bool") kBool := ⟨_, call_bool1, fun xs H Q ds G QD hR hp ⟨x, e, q⟩ hq => by
  subst e
  obtain ⟨v, rfl, p⟩ := rps1 hp
  rcases q with ⟨i, ei, q⟩ | ⟨i, ei, q⟩ <;> subst ei <;> cases p
  · exact .inl ⟨i, rfl, hq.now hR (.bl _) q⟩
  · exact .inr ⟨i, rfl, hq.now hR (.bl _) q⟩⟩
def kStr : RCD := c1 fun x G Q => ∃ i, x = .int i ∧ i.natAbs.log2 < 1920 ∧ Q (.str (toString i)) G
theorem cStr : CallD X (.type "str") kStr := ⟨_, call_str_int, fun xs H Q ds G QD hR hp ⟨x, e, i, ei, l, q⟩ hq => by
  subst e
  obtain ⟨v, rfl, p⟩ := rps1 hp
  subst ei; cases p
  exact ⟨i, rfl, l, hq.now hR (.str _) q⟩⟩
def kTuple : RCD := c1 fun x G Q => ∃ xs, Sq G x xs ∧ Q (.tup xs) G
theorem cTuple : CallD X (.type "tuple") kTuple := ⟨_, call_tuple_of, fun xs H Q ds G QD hR hp ⟨x, e, xs', s, q⟩ hq => by
  subst e
  obtain ⟨v, rfl, p⟩ := rps1 hp
  cases s with
  | tup => cases p with | tup f r => exact ⟨_, _, rfl, .inr ⟨f.sq, hq.now hR (.tup f r) q⟩⟩
  | lst => cases p with | lst h g r => exact ⟨_, _, rfl, .inl ⟨SqL.of h, fun l hl => hq.tup hR hl r q⟩⟩
  | wls => cases p with | wls h r => exact ⟨_, _, rfl, .inl ⟨h.sq, fun l hl => hq.tup hR hl r q⟩⟩
  | ref eg => cases p with | ref a => obtain ⟨vs, h, r⟩ := hR _ _ eg; exact ⟨_, _, rfl, .inl ⟨SqL.of h, fun l hl => hq.tup hR hl r q⟩⟩⟩
/-- list(..): a frozen copy -/
def kList : RCD := c1 fun x G Q => ∃ xs, Sq G x xs ∧ Q (.lst xs) G
theorem cList : CallD X (.type "list") kList := ⟨_, call_list_of, fun xs H Q ds G QD hR hp ⟨x, e, xs', s, q⟩ hq => by
  subst e
  obtain ⟨v, rfl, p⟩ := rps1 hp
  obtain ⟨a, vs, rfl, h, r⟩ := s.of hR p
  exact ⟨a, vs, rfl, h, fun l hl => hq.lst hR hl r q⟩⟩
/-- .. a copy that may change -/
def kListM : RCD := c1 fun x G Q => ∃ xs, Sq G x xs ∧ ∀ p, G p = none → Q (.ref p) (gput G p (.lst xs))
theorem cListM : CallD X (.type "list") kListM := ⟨_, call_list_of, fun xs H Q ds G QD hR hp ⟨x, e, xs', s, q⟩ hq => by
  subst e
  obtain ⟨v, rfl, p⟩ := rps1 hp
  obtain ⟨a, vs, rfl, h, r⟩ := s.of hR p
  exact ⟨a, vs, rfl, h, fun l hl => hq _ _ _ _ (Stp.newM (od := .lst xs') hl) (hR.newM (od := .lst xs') hl ⟨vs, upd_same, r.mono (Stp.newM hl)⟩) (.ref l) (q l (hR.free hl))⟩⟩
def kSum : RCD := c1 fun x G Q => ∃ ns : List Int, LsW G x (ns.map D.int) ∧ Q (.int ns.sum) G
theorem cSum (hc : X.calm = true) : CallD X (.builtin "sum") kSum := ⟨_, cr_sum hc, fun xs H Q ds G QD hR hp ⟨x, e, ns, s, q⟩ hq => by
  subst e
  obtain ⟨v, rfl, p⟩ := rps1 hp
  obtain ⟨a, vs, rfl, h, r⟩ := s.of hR p
  rw [r.ints] at h
  exact ⟨a, ns, rfl, h, hq.now hR (.int _) q⟩⟩
def kAny : RCD := c1 fun x G Q => ∃ bs : List Bool, LsW G x (bs.map D.bl) ∧ Q (.bl (bs.any id)) G
theorem cAny (hc : X.calm = true) : CallD X (.builtin "any") kAny := ⟨_, cr_any hc, fun xs H Q ds G QD hR hp ⟨x, e, ns, s, q⟩ hq => by
  subst e
  obtain ⟨v, rfl, p⟩ := rps1 hp
  obtain ⟨a, vs, rfl, h, r⟩ := s.of hR p
  rw [r.bls] at h
  exact ⟨a, ns, rfl, h, hq.now hR (.bl _) q⟩⟩
def kAll : RCD := c1 fun x G Q => ∃ bs : List Bool, LsW G x (bs.map D.bl) ∧ Q (.bl (bs.all id)) G
theorem cAll (hc : X.calm = true) : CallD X (.builtin "all") kAll := ⟨_, cr_all hc, fun xs H Q ds G QD hR hp ⟨x, e, ns, s, q⟩ hq => by
  subst e
  obtain ⟨v, rfl, p⟩ := rps1 hp
  obtain ⟨a, vs, rfl, h, r⟩ := s.of hR p
  rw [r.bls] at h
  exact ⟨a, ns, rfl, h, hq.now hR (.bl _) q⟩⟩
/-- repr of data -/
def Shw (d : PyData) : Prop := d.showable = true ∧ SeqAt.shaped d = true ∧ d.shown.length ≤ sizeLine
theorem call_reprD (hg : X.A.guards = some []) (hu : X.A.units + 70 < cLine) : CallR X (.builtin "repr") (fun xs H Q => ∃ v d, xs = [v] ∧ Dp X.K H v d ∧ Shw d ∧ Q (.str d.shown) H) := by
  intro pins s σ H xs us Q I r h
  obtain ⟨v, d, rfl, hd, ⟨hs, hsh, hz⟩, q⟩ := h
  obtain ⟨u, rfl, ru⟩ := vals1 r
  cases hd with
  | non =>
    cases ru
    simp only [PyData.shown] at q
    exact PySem.P.repr_of_none ⟨.str _, H, I.tok _, ⟨_, rfl⟩, q⟩
  | bl b =>
    cases ru
    simp only [PyData.shown] at q
    exact PySem.P.repr_of_bool ⟨.str _, H, I.tok _, ⟨_, rfl⟩, q⟩
  | int i =>
    obtain ⟨t, rfl⟩ := ru
    simp only [PyData.shown] at q
    refine PySem.P.repr_of_int ?_ ⟨.str _, H, I.tok _, ⟨_, rfl⟩, q⟩
    simpa [PyData.showable] using hs
  | str x =>
    obtain ⟨t, rfl⟩ := ru
    simp only [PyData.shown] at q hz
    exact PySem.P.repr_of_str ⟨.str _, H, I.tok _, ⟨_, rfl⟩, q⟩ hz
  | @lst a xs ds h1 h2 =>
    cases ru
    obtain ⟨as, rd⟩ := Dp.reads I (.list ds) (.ref a) (.ref a) (.lst h1 h2) rfl
    have hdp := SeqAt.depth_of_shaped hsh
    exact repr_of_reads' (h₀ := s.heap) rd hs (fun z => absurd (z.symm.trans (PyData.hasDict_of_canLay _ (SeqAt.canLay_of_shaped hsh))) (by decide)) hg (by omega) (fun _ _ z => z) (fun h' u tk k => ⟨.str _, H, I.kept k, ⟨u, rfl⟩, q⟩) hz
  | @tup a xs ds h1 h2 =>
    cases ru
    obtain ⟨as, rd⟩ := Dp.reads I (.tuple ds) (.ref a) (.ref a) (.tup h1 h2) rfl
    have hdp := SeqAt.depth_of_shaped hsh
    exact repr_of_reads' (h₀ := s.heap) rd hs (fun z => absurd (z.symm.trans (PyData.hasDict_of_canLay _ (SeqAt.canLay_of_shaped hsh))) (by decide)) hg (by omega) (fun _ _ z => z) (fun h' u tk k => ⟨.str _, H, I.kept k, ⟨u, rfl⟩, q⟩) hz
def kRepr : RCD := c1 fun x G Q => ∃ d, Py G x d ∧ Shw d ∧ Q (.str d.shown) G
theorem cRepr (hg : X.A.guards = some []) (hu : X.A.units + 70 < cLine) : CallD X (.builtin "repr") kRepr := ⟨_, call_reprD hg hu, fun xs H Q ds G QD hR hp ⟨x, e, d, hd, hs, q⟩ hq => by
  subst e
  obtain ⟨v, rfl, p⟩ := rps1 hp
  exact ⟨v, d, rfl, hd.dp hR p, hs, hq.now hR (.str _) q⟩⟩

/-! ### defs -/
/-- a def's promise over data -/
abbrev SpD := List D → HH → QD → ED → Prop
def lsp (K : Frag) (sp : SpD) : Sp := fun vs H Q E => ∃ ds G QD EX, RelH K H G ∧ Rps K H G ds vs ∧ sp ds G QD EX ∧ Ct K H G Q QD ∧
  ∀ x cls d H' G', Stp H G H' G' → RelH K H' G' → XRp K H' G' x cls d → EX x G' → E cls d H'
/-- as FnOk, where no repr is under way -/
structure FnG (P : Program) (w : World) (K : Frag) (mg : Str → Option Value) (base : Heap) (k : Nat) (f : Addr) (fd : FuncData) (ps : List Str) (sp : SpD) : Prop where
  len : ∀ ds G Q E, sp ds G Q E → ds.length = ps.length
  run : ∀ (A : Around) (outer : List Env) (s : Shared) (H : Hp) (args : Args) (us : List Value) (vs : List V) (Q : VK) (E : XK), A.guards = some [] → Room k A → Env0 P w K mg base A outer s H → BindsTo s fd args (ps.zip us) → Vals vs us → lsp K sp vs H Q E →
    codeAny (model P w) A (.call (.ref f) args) (CR (L2.CX P w) outer P w H s Q E) s
theorem FnG.llen {P w K mg base k f fd ps sp} (F : FnG P w K mg base k f fd ps sp) {vs H Q E} (h : lsp K sp vs H Q E) : vs.length = ps.length := by
  obtain ⟨ds, G, QD, EX, _, r, q, _⟩ := h
  rw [← r.length]
  exact F.len _ _ _ _ q
theorem FnG.mono {P w K mg base j k f fd ps sp} (F : FnG P w K mg base j f fd ps sp) (h : j ≤ k) : FnG P w K mg base k f fd ps sp :=
  ⟨F.len, fun A outer s H args us vs Q E hg hr => F.run A outer s H args us vs Q E hg (hr.mono h)⟩
theorem FnG.imp {P w K mg base k f fd ps sp sp'} (F : FnG P w K mg base k f fd ps sp) (h : ∀ ds G Q E, sp' ds G Q E → sp ds G Q E) : FnG P w K mg base k f fd ps sp' :=
  ⟨fun ds G Q E q => F.len ds G Q E (h _ _ _ _ q), fun A outer s H args us vs Q E hg hr he hb hv ⟨ds, G, QD, EX, a1, a2, a3, a4⟩ => F.run A outer s H args us vs Q E hg hr he hb hv ⟨ds, G, QD, EX, a1, a2, h _ _ _ _ a3, a4⟩⟩
section
variable {k : Nat} {f : Addr} {fd : FuncData} {ps : List Str} {sp : SpD} {x : Str} {p : Pos}
/-- the callee runs, whatever way it was reached -/
theorem run_any {pins : List (Addr × Obj)} {σ : L2.St} {H : Hp} {s : Shared} {Q : VK} {us : List Value} {vs : List V} {args : Args} (F : FnG X.prog X.w X.K X.mg X.base k f fd ps sp) (hg : X.A.guards = some []) (hr : Room k X.A) (tk : Takes X W)
    (I : Inv X pins σ H s) (hb : BindsTo s fd args (ps.zip us)) (r : Vals vs us) (h : lsp X.K sp vs H Q (WE W σ)) : codeAny (model X.prog X.w) X.A (.call (.ref f) args) (fun r s' => match r with | .ok (.ret u) => EP X pins σ Q u s' | .ok _ => False | .error e => X.xe e s') s := by
  refine codeAny_mono (F.run X.A X.stack s H args us vs Q (WE W σ) hg hr I.env0 hb r h) fun r s' hq => ?_
  cases r with
  | error e => exact passAt tk σ pins H s e s' I hq
  | ok fl =>
    cases fl with
    | ret u => exact I.after hq
    | next => exact False.elim hq
    | brk => exact False.elim hq
    | cont => exact False.elim hq
theorem run_call {pins : List (Addr × Obj)} {σ : L2.St} {H : Hp} {s : Shared} {Q : VK} {us : List Value} {vs : List V} (F : FnG X.prog X.w X.K X.mg X.base k f fd ps sp) (hg : X.A.guards = some []) (hr : Room k X.A) (hb : Binds X.K fd ps []) (tk : Takes X W)
    (I : Inv X pins σ H s) (r : Vals vs us) (h : lsp X.K sp vs H Q (WE W σ)) : wpAny (model X.prog X.w) X.A (call (.ref f) us) (EP X pins σ Q) X.xe s := by
  have hl : us.length = ps.length := by rw [← r.length]; exact F.llen h
  have b := hb s us I.kIn (by rw [List.append_nil]; exact hl)
  rw [List.append_nil] at b
  refine wpAny_call (codeAny_mono (run_any F hg hr tk I b r h) fun r s' hq => ?_)
  cases r with
  | error e => exact hq
  | ok fl =>
    cases fl with
    | ret u => exact hq
    | next => exact False.elim hq
    | brk => exact False.elim hq
    | cont => exact False.elim hq
/-- f(e, ..) -/
def dCall (sp : SpD) (t : TAD) : TED := fun σ G Q E => t σ G (fun ds G1 => sp ds G1 Q E) E
theorem lft_call {K : Frag} {σ H Q} (h : lft K W (dCall sp t) σ H Q) : tCallS (lsp K sp) (WE W) (lftA K W t) σ H Q := by
  obtain ⟨σD, G, QD, E, hR, hS, ht, hq, he⟩ := h
  exact ⟨σD, G, _, E, hR, hS, ht, fun vs H1 ds G1 s1 r1 p1 q1 => ⟨ds, G1, QD, E, r1, p1, q1, hq.mono s1, he.mono s1⟩, he⟩
theorem de_call (F : FnG X.prog X.w X.K X.mg X.base k f fd ps sp) (hgd : X.A.guards = some []) (hr : Room k X.A) (hg : Gl X x) (hm : X.mg x = some (.ref f)) (hk : PySem.W.keepIn X.K (.ref f) = true) (hb : Binds X.K fd ps []) (tk : Takes X W)
    (ha : DA X W (e :: es) t) (hdb : (x == ("__debug__" : Str)) = false := by decide) (he : starEach (e :: es) X.env = (false, eval e X.env) :: starEach es X.env := by rfl) (hpl : (backTo pos (starEach es X.env)).any (·.1) = false := by rfl) :
    DE X W (.Call (.Name x p) (e :: es) [] pos) (dCall sp t) := by
  refine PE.imp (t := tCallS (lsp X.K sp) (WE W) (lftA X.K W t)) ⟨fun pins s σ H Q I h => ?_⟩ fun _ _ _ => lft_call
  refine wpAny_Call_Name_kw (ld_glob I hg hm ?_ hdb)
  have ha' : PA X (e :: es) (lftA X.K W t) := ha
  exact PySem.W.callWith_K (h₀ := X.base) I.ok.mod.kin hk (thn (ha'.run pos pins s σ H _ I h) fun us s1 ⟨vs, H1, I1, r, q⟩ => ⟨I1.kIn, run_call F hgd hr hb tk I1 r q⟩) he hpl
theorem de_call0 (F : FnG X.prog X.w X.K X.mg X.base k f fd ps sp) (hgd : X.A.guards = some []) (hr : Room k X.A) (hg : Gl X x) (hm : X.mg x = some (.ref f)) (hk : PySem.W.keepIn X.K (.ref f) = true) (hb : Binds X.K fd ps []) (tk : Takes X W)
    (hdb : (x == ("__debug__" : Str)) = false := by decide) : DE X W (.Call (.Name x p) [] [] pos) (dCall sp dNil) := by
  refine PE.imp (t := tCallS (lsp X.K sp) (WE W) tNil) ⟨fun pins s σ H Q I h => ?_⟩ fun σ H Q ⟨σD, G, QD, E, hR, hS, q, hq, he⟩ => ⟨[], G, QD, E, hR, .nil, q, hq, he⟩
  refine wpAny_Call_Name_kw (ld_glob I hg hm ?_ hdb)
  exact PySem.W.callWith_K0 I.kIn hk (run_call (us := []) F hgd hr hb tk I .nil h)
end
end DL

namespace DL
open PySem PySem.Spec PyProof.Rows L2
open PySem.W (Frag)
variable {X : Cx} {W : WX} {e a b c : Expr} {es : List Expr} {ta tb tc : TED} {t u : TAD} {tA tB' : TTD} {pos : Pos} {st : Stmt} {rest body : List Stmt}

/-! ### statements -/
structure EndsD where
  nx : SD → HH → Prop
  rt : QD
  bk : SD → HH → Prop := fun _ _ => False
  ct : SD → HH → Prop := fun _ _ => False
  ex : XD → SD → HH → Prop := fun _ _ _ => False
abbrev TSD := EndsD → SD → HH → Prop
def Nx (K : Frag) (H : Hp) (G : HH) (P : SD → HH → Prop) (Q : L2.St → Hp → Prop) : Prop := ∀ σ' H' σD' G', Stp H G H' G' → RelH K H' G' → SRp K H' G' σD' σ' → P σD' G' → Q σ' H'
theorem Nx.mono {K H G H' G' P Q} (s : Stp H G H' G') (h : Nx K H G P Q) : Nx K H' G' P Q := fun σ2 H2 σD2 G2 s2 r2 p2 q2 => h σ2 H2 σD2 G2 (s.trans s2) r2 p2 q2
def ExS (K : Frag) (W : WX) (H : Hp) (G : HH) (E : XD → SD → HH → Prop) : Prop := ∀ x cls d σ' σD' H' G', Stp H G H' G' → RelH K H' G' → SRp K H' G' σD' σ' → XRp K H' G' x cls d → E x σD' G' → W cls d σ' H'
theorem ExS.mono {K W H G H' G' E} (s : Stp H G H' G') (h : ExS K W H G E) : ExS K W H' G' E := fun x cls d σ2 σD2 H2 G2 s2 r2 p2 x2 e2 => h x cls d σ2 σD2 H2 G2 (s.trans s2) r2 p2 x2 e2
theorem ExS.at {K W H G E σD σ} (h : ExS K W H G E) (hS : SRp K H G σD σ) : Exs K W σ H G (fun x G => E x σD G) := fun x cls d H' G' s r p e => h x cls d σ σD H' G' s r (hS.mono s) p e
structure EndR (K : Frag) (W : WX) (H : Hp) (G : HH) (DD : EndsD) (D : Ends) : Prop where
  nx : Nx K H G DD.nx D.nx
  rt : Ct K H G D.rt DD.rt
  bk : Nx K H G DD.bk D.bk
  ct : Nx K H G DD.ct D.ct
  ex : ExS K W H G DD.ex
theorem EndR.mono {K W H G H' G' DD D} (s : Stp H G H' G') (h : EndR K W H G DD D) : EndR K W H' G' DD D := ⟨h.nx.mono s, h.rt.mono s, h.bk.mono s, h.ct.mono s, h.ex.mono s⟩
def lftS (K : Frag) (W : WX) (t : TSD) : TS := fun D σ H => ∃ σD G DD, RelH K H G ∧ SRp K H G σD σ ∧ t DD σD G ∧ EndR K W H G DD D
def DS (X : Cx) (W : WX) (st : Stmt) (t : TSD) : Prop := PS X st (lftS X.K W t)
def DSs (X : Cx) (W : WX) (st : List Stmt) (t : TSD) : Prop := PSs X st (lftS X.K W t)
theorem PS.imp {X : Cx} {e : Stmt} {t t' : TS} (h : PS X e t) (i : ∀ D σ H, t' D σ H → t D σ H) : PS X e t' := ⟨fun pins s σ H D I q => h.run pins s σ H D I (i D σ H q)⟩
theorem PSs.imp {X : Cx} {e : List Stmt} {t t' : TS} (h : PSs X e t) (i : ∀ D σ H, t' D σ H → t D σ H) : PSs X e t' := ⟨fun pins s σ H D I q => h.run pins s σ H D I (i D σ H q)⟩
theorem PG.imp {X : Cx} {e : Expr} {t t' : TG} (h : PG X e t) (i : ∀ v σ H Q, t' v σ H Q → t v σ H Q) : PG X e t' := ⟨fun pins s σ H v u Q I r q => h.run pins s σ H v u Q I r (i v σ H Q q)⟩
theorem PGs.imp {X : Cx} {e : List Expr} {t t' : TGs} (h : PGs X e t) (i : ∀ v σ H Q, t' v σ H Q → t v σ H Q) : PGs X e t' := ⟨fun pins s σ H v u Q I r q => h.run pins s σ H v u Q I r (i v σ H Q q)⟩
theorem PI.imp {X : Cx} {tg e : Expr} {t t' : TI} (h : PI X tg e t) (i : ∀ σ H Q, t' σ H Q → t σ H Q) : PI X tg e t' := ⟨fun pins s σ H R I q => h.run pins s σ H R I (i σ H R q)⟩

def dNext : TSD := fun D σ G => D.nx σ G
def dSeq (t u : TSD) : TSD := fun D σ G => t { D with nx := u D } σ G
variable {tS uS : TSD}
theorem dss_nil : DSs X W [] dNext := PSs.imp pss_nil fun D σ H ⟨σD, G, DD, hR, hS, q, he⟩ => he.nx _ _ _ _ Stp.refl hR hS q
theorem dss_cons (h1 : DS X W st tS) (h2 : DSs X W rest uS) : DSs X W (st :: rest) (dSeq tS uS) := PSs.imp (pss_cons h1 h2) fun D σ H ⟨σD, G, DD, hR, hS, q, he⟩ => by
  refine ⟨σD, G, _, hR, hS, q, fun σ' H' σD' G' s r p z => ?_, he.rt, he.bk, he.ct, he.ex⟩
  exact ⟨σD', G', DD, r, p, z, he.mono s⟩
theorem dss_one (h1 : DS X W st tS) : DSs X W [st] tS := pss_one h1
def dBreak : TSD := fun D σ G => D.bk σ G
def dCont : TSD := fun D σ G => D.ct σ G
theorem ds_pass : DS X W (.Pass pos) dNext := PS.imp ps_pass fun D σ H ⟨σD, G, DD, hR, hS, q, he⟩ => he.nx _ _ _ _ Stp.refl hR hS q
theorem ds_break : DS X W (.Break pos) dBreak := PS.imp ps_break fun D σ H ⟨σD, G, DD, hR, hS, q, he⟩ => he.bk _ _ _ _ Stp.refl hR hS q
theorem ds_continue : DS X W (.Continue pos) dCont := PS.imp ps_continue fun D σ H ⟨σD, G, DD, hR, hS, q, he⟩ => he.ct _ _ _ _ Stp.refl hR hS q
def dDrop (ta : TED) : TSD := fun D σ G => ta σ G (fun _ G1 => D.nx σ G1) (fun x G1 => D.ex x σ G1)
theorem ds_expr (ha : DE X W a ta) (hs : swapsWith a none pos.line X.env = pure false := by rfl) : DS X W (.Expr a pos) (dDrop ta) := PS.imp (ps_expr ha hs) fun D σ H ⟨σD, G, DD, hR, hS, q, he⟩ =>
  ⟨σD, G, _, _, hR, hS, q, fun v H1 d G1 s r p z => he.nx _ _ _ _ s r (hS.mono s) z, he.ex.at hS⟩
def dRet (ta : TED) : TSD := fun D σ G => ta σ G D.rt (fun x G1 => D.ex x σ G1)
theorem ds_ret (ha : DE X W a ta) : DS X W (.Return (some a) pos) (dRet ta) := PS.imp (ps_ret ha) fun D σ H ⟨σD, G, DD, hR, hS, q, he⟩ =>
  ⟨σD, G, _, _, hR, hS, q, he.rt, he.ex.at hS⟩
/-- .. a list that was filled is frozen -/
def dRetF (ta : TED) : TSD := fun D σ G => ta σ G (fun d G1 => ∃ p xs, d = .ref p ∧ G1 p = some (.lst xs) ∧ D.rt (.lst xs) (gdel G1 p)) (fun x G1 => D.ex x σ G1)
theorem thaw_lst {K H G p xs} (hR : RelH K H G) (e : G p = some (.lst xs)) : Rp K H (gdel G p) (.lst xs) (.ref p) := by
  obtain ⟨vs, h, r⟩ := hR p _ e
  exact .lst h gdel_same (r.mono Stp.del)
theorem ds_retF (ha : DE X W a ta) : DS X W (.Return (some a) pos) (dRetF ta) := PS.imp (ps_ret ha) fun D σ H ⟨σD, G, DD, hR, hS, q, he⟩ =>
  ⟨σD, G, _, _, hR, hS, q, fun v H1 d G1 s r p ⟨q, xs, e1, e2, z⟩ => by
    subst e1; cases p
    exact he.rt _ _ _ _ (s.trans Stp.del) r.del (thaw_lst r e2) z, he.ex.at hS⟩
def dRetN : TSD := fun D _ G => D.rt .non G
theorem ds_retN : DS X W (.Return none pos) dRetN := PS.imp ps_retN fun D σ H ⟨σD, G, DD, hR, hS, q, he⟩ => he.rt.now hR .non q
def dIfS (c : TTD) (t u : TSD) : TSD := fun D σ G => c σ G (fun b G1 => if b = true then t D σ G1 else u D σ G1) (fun x G1 => D.ex x σ G1)
theorem ds_if {a b : List Stmt} (hc : DT X W c tA) (ha : DSs X W a tS) (hb : DSs X W b uS) : DS X W (.If c a b pos) (dIfS tA tS uS) := PS.imp (ps_if hc ha hb) fun D σ H ⟨σD, G, DD, hR, hS, q, he⟩ =>
  ⟨σD, G, _, _, hR, hS, q, fun k H1 G1 s r z => by
    cases k with
    | true => rw [if_pos rfl] at z ⊢; exact ⟨σD, G1, DD, r, hS.mono s, z, he.mono s⟩
    | false => rw [if_neg Bool.false_ne_true] at z ⊢; exact ⟨σD, G1, DD, r, hS.mono s, z, he.mono s⟩, he.ex.at hS⟩
/-- a list in slot i is frozen here -/
def dFrz (i : Nat) (t : TSD) : TSD := fun D σ G => ∃ p xs, σ[i]? = some (some (.ref p)) ∧ G p = some (.lst xs) ∧ t D (σ.set i (some (.lst xs))) (gdel G p)
theorem dss_frz (i : Nat) (h : DSs X W rest tS) : DSs X W rest (dFrz i tS) := PSs.imp h fun D σ H ⟨σD, G, DD, hR, hS, ⟨p, xs, e1, e2, q⟩, he⟩ => by
  obtain ⟨v, ev, r⟩ := hS.at_ i _ e1
  cases r
  refine ⟨σD.set i (some (.lst xs)), gdel G p, DD, hR.del, ?_, q, he.mono Stp.del⟩
  have z := (hS.mono (Stp.del (p := p))).set i (thaw_lst hR e2)
  have eσ : σ.set i (some (.ref p)) = σ := by
    apply List.ext_getElem?
    intro j
    by_cases hj : i = j
    · subst hj
      rw [List.getElem?_set_self (List.getElem?_eq_some_iff.mp ev).1, ev]
    · rw [List.getElem?_set_ne hj]
  rw [eσ] at z
  exact z

/-! ### targets -/
abbrev TGD := D → SD → HH → (SD → HH → Prop) → Prop
abbrev TGsD := List D → SD → HH → (SD → HH → Prop) → Prop
def lftG (K : Frag) (t : TGD) : TG := fun v σ H Q => ∃ d σD G QD, RelH K H G ∧ SRp K H G σD σ ∧ Rp K H G d v ∧ t d σD G QD ∧ Nx K H G QD Q
def lftGs (K : Frag) (t : TGsD) : TGs := fun vs σ H Q => ∃ ds σD G QD, RelH K H G ∧ SRp K H G σD σ ∧ Rps K H G ds vs ∧ t ds σD G QD ∧ Nx K H G QD Q
def DG (X : Cx) (e : Expr) (t : TGD) : Prop := PG X e (lftG X.K t)
def DGs (X : Cx) (es : List Expr) (t : TGsD) : Prop := PGs X es (lftGs X.K t)
def gdName (i : Nat) : TGD := fun d σ G Q => Q (σ.set i (some d)) G
theorem dg_name {i : Nat} {x : Str} (hN : X.N.Nodup) (hi : X.N[i]? = some x) (hx : Loc X.env.scope x) (hf : X.fn x = true ∨ X.env.scope.names.lookup x = some .local := by first | exact .inl rfl | exact .inr rfl | assumption) : DG X (.Name x pos) (gdName i) :=
  PG.imp (pg_name hN hi hx hf) fun v σ H Q ⟨d, σD, G, QD, hR, hS, p, q, hq⟩ => hq _ _ _ _ Stp.refl hR (hS.set i p) q
def gdNil : TGsD := fun ds σ G Q => ds = [] ∧ Q σ G
def gdCons (t : TGD) (u : TGsD) : TGsD := fun ds σ G Q => ∃ d r, ds = d :: r ∧ t d σ G (fun σ' G' => u r σ' G' Q)
theorem dgs_nil : DGs X [] gdNil := PGs.imp pgs_nil fun vs σ H Q ⟨ds, σD, G, QD, hR, hS, p, ⟨e, q⟩, hq⟩ => by
  subst e; cases p
  exact ⟨rfl, hq _ _ _ _ Stp.refl hR hS q⟩
theorem dgs_cons {tG : TGD} {uG : TGsD} (h1 : DG X e tG) (h2 : DGs X es uG) (hs : (assignEach (e :: es) X.env).map (·.2) = assign e X.env :: (assignEach es X.env).map (·.2) := by rfl) : DGs X (e :: es) (gdCons tG uG) :=
  PGs.imp (pgs_cons h1 h2 hs) fun vs σ H Q ⟨ds, σD, G, QD, hR, hS, p, ⟨d, r, e, q⟩, hq⟩ => by
    subst e
    cases p with
    | cons p1 p2 =>
      refine ⟨_, _, rfl, d, σD, G, _, hR, hS, p1, q, fun σ' H' σD' G' s r' p' z => ?_⟩
      exact ⟨_, σD', G', QD, r', p', p2.mono s, z, hq.mono s⟩
def gdTup (n : Nat) (t : TGsD) : TGD := fun d σ G Q => ∃ ds, d = .tup ds ∧ ds.length = n ∧ t ds σ G Q
theorem dg_tup {k n : Nat} {tG : TGsD} (hc : X.calm = true) (h : DGs X es tG) (hn : (assignEach es X.env).length = n := by rfl) (hst : (assignEach es X.env).findIdx? (·.1) = none := by rfl) : DG X (.Tuple es k pos) (gdTup n tG) :=
  PG.imp (pg_tup hc h hn hst) fun v σ H Q ⟨d, σD, G, QD, hR, hS, p, ⟨ds, e, l, q⟩, hq⟩ => by
    subst e
    cases p with
    | tup f r => exact ⟨_, _, rfl, f.sq, by rw [← r.length]; exact l, ds, σD, G, QD, hR, hS, r, q, hq⟩
/-- o[i] = .., a list -/
def gdSub (ta tb : TED) : TGD := fun d σ G Q => ta σ G (fun x G1 => tb σ G1 (fun y G2 => ∃ p xs k j, x = .ref p ∧ y = .int k ∧ G2 p = some (.lst xs) ∧ ixN xs.length k = some j ∧ Q σ (gput G2 p (.lst (xs.set j d)))) (fun _ _ => False)) (fun _ _ => False)
theorem exs0 {K σ H G} : Exs K (fun _ _ _ _ => False) σ H G (fun _ _ => False) := fun _ _ _ _ _ _ _ _ z => z
theorem dg_sub (ha : DE X (fun _ _ _ _ => False) a ta) (hb : DE X (fun _ _ _ _ => False) b tb) (hh : ∀ v, assign (.Subscript a b pos) X.env v = (do
      let ov ← holding [v] (eval a X.env)
      let iv ← holding [v, ov] (eval b X.env)
      standAt pos
      holding [v, ov, iv] (setItem ov iv v)
      release [v, ov, iv] []) := by intro _; rfl) : DG X (.Subscript a b pos) (gdSub ta tb) :=
  PG.imp (pg_sub ha hb set_list hh) fun v σ H Q ⟨d, σD, G, QD, hR, hS, p, q, hq⟩ => by
    refine ⟨σD, G, _, _, hR, hS, q, fun v1 H1 d1 G1 s1 r1 p1 q1 => ?_, exs0⟩
    refine ⟨σD, G1, _, _, r1, hS.mono s1, q1, fun v2 H2 d2 G2 s2 r2 p2 ⟨q, xs, k, j, e1, e2, e3, e4, z⟩ => ?_, exs0⟩
    subst e1; subst e2; cases p1; cases p2
    obtain ⟨vs, h, r⟩ := r2 _ _ e3
    have s3 := Stp.put (H := H2) (o := .lst (vs.set j v)) (od := .lst (xs.set j d)) e3
    have s12 := s1.trans s2
    exact ⟨_, _, k, j, rfl, rfl, h, by rw [← r.length]; exact e4, hq _ _ _ _ (s12.trans s3) (r2.put e3 ⟨_, upd_same, ((r.mono s3).set (by first | exact (p.mono s12).mono s3) j)⟩) ((hS.mono s12).mono s3) z⟩
def dAsg (ta : TED) (g : TGD) : TSD := fun D σ G => ta σ G (fun x G1 => g x σ G1 D.nx) (fun x G1 => D.ex x σ G1)
theorem ds_asg {tg : Expr} {g : TGD} (ha : DE X W a ta) (hg : DG X tg g) (hs : swapsWithSole [tg] a pos.line X.env = pure false := by rfl) (hw : swappedStores [tg] a X.env = pure none := by rfl)
    (h1 : (assignEach [tg] X.env).map (·.2) = [assign tg X.env] := by rfl) : DS X W (.Assign [tg] a pos) (dAsg ta g) := PS.imp (ps_asg ha hg hs hw h1) fun D σ H ⟨σD, G, DD, hR, hS, q, he⟩ =>
  ⟨σD, G, _, _, hR, hS, q, fun v H1 d G1 s r p z => ⟨d, σD, G1, DD.nx, r, hS.mono s, p, z, he.nx.mono s⟩, he.ex.at hS⟩
theorem ds_set {i : Nat} {x : Str} {pos' : Pos} (hN : X.N.Nodup) (hi : X.N[i]? = some x) (hx : Loc X.env.scope x) (ha : DE X W a ta) (hs : swapsWith a (some (.Name x pos')) pos.line X.env = pure false := by rfl) (hf : X.fn x = true ∨ X.env.scope.names.lookup x = some .local := by first | exact .inl rfl | exact .inr rfl | assumption) :
    DS X W (.Assign [.Name x pos'] a pos) (dAsg ta (gdName i)) := PS.imp (ps_set hN hi hx ha hs hf) fun D σ H ⟨σD, G, DD, hR, hS, q, he⟩ =>
  ⟨σD, G, _, _, hR, hS, q, fun v H1 d G1 s r p z => he.nx _ _ _ _ s r ((hS.mono s).set i p) z, he.ex.at hS⟩
/-- a, b = x, y -/
def dPar (i j : Nat) (t : TAD) : TSD := fun D σ G => t σ G (fun ds G1 => ∃ d e, ds = [d, e] ∧ D.nx ((σ.set i (some d)).set j (some e)) G1) (fun x G1 => D.ex x σ G1)
theorem ds_par {i j : Nat} {x y : Str} {px py pt : Pos} {kt k2 pt2} (hc : X.calm = true) (hN : X.N.Nodup) (hi : X.N[i]? = some x) (hj : X.N[j]? = some y) (hij : i ≠ j)
    (hx : X.env.scope.names.lookup x = some .local) (hy : X.env.scope.names.lookup y = some .local) (ha : DA X W [a, b] t)
    (hw : swappedStores [.Tuple [.Name x px, .Name y py] kt pt] (.Tuple [a, b] k2 pt2) X.env = pure (some [x, y]))
    (hs : swapsWithSole [.Tuple [.Name x px, .Name y py] kt pt] (.Tuple [a, b] k2 pt2) pos.line X.env = pure false := by rfl) :
    DS X W (.Assign [.Tuple [.Name x px, .Name y py] kt pt] (.Tuple [a, b] k2 pt2) pos) (dPar i j t) := PS.imp (ps_par hc hN hi hj hij hx hy ha hw hs) fun D σ H ⟨σD, G, DD, hR, hS, q, he⟩ =>
  ⟨σD, G, _, _, hR, hS, q, fun vs H1 ds G1 s r p ⟨d, e, e1, z⟩ => by
    subst e1
    obtain ⟨v, w, rfl, p1, p2⟩ := rps2 p
    exact ⟨v, w, rfl, he.nx _ _ _ _ s r (((hS.mono s).set i p1).set j p2) z⟩, he.ex.at hS⟩

/-! ### what a loop walks -/
abbrev TID := SD → HH → (List D → (HH → Prop) → HH → Prop) → ED → Prop
def ItR (K : Frag) (H : Hp) (G : HH) (J : It) (items : List D) (ok : HH → Prop) : Prop := ∀ i H2 G2, Stp H G H2 G2 → RelH K H2 G2 → ok G2 →
  (∀ d, items[i]? = some d → J.go i H2 ∧ ∀ x H3, J.yld i H2 x H3 → Stp H2 G2 H3 G2 ∧ RelH K H3 G2 ∧ Rp K H3 G2 d x) ∧ (items.length ≤ i → J.stop i H2)
def lftI (K : Frag) (W : WX) (t : TID) : TI := fun σ H R => ∃ σD G RD E, RelH K H G ∧ SRp K H G σD σ ∧ t σD G RD E ∧ (∀ J H' items ok G', Stp H G H' G' → RelH K H' G' → ItR K H' G' J items ok → RD items ok G' → R J H') ∧ Exs K W σ H G E
def DI (X : Cx) (W : WX) (tg e : Expr) (t : TID) : Prop := PI X tg e (lftI X.K W t)
def okT : HH → Prop := fun _ => True
variable {tg : Expr}
/-- a tuple -/
def iTupD (ta : TED) : TID := fun σ G R E => ta σ G (fun x G1 => ∃ xs, x = .tup xs ∧ R xs okT G1) E
theorem di_tup (ha : DE X W a ta) : DI X W tg a (iTupD ta) := PI.imp (pi_tup ha) fun σ H R ⟨σD, G, RD, E, hR, hS, q, hr, he⟩ =>
  ⟨σD, G, _, E, hR, hS, q, fun v H1 d G1 s r p ⟨xs, ex, z⟩ => by
    subst ex
    cases p with
    | @tup a vs _ f rr =>
      refine ⟨a, rfl, ⟨_, f.sq⟩, hr _ _ _ _ _ s r (fun i H2 G2 s2 r2 _ => ⟨fun d hd => ?_, fun hl => ?_⟩) z⟩
      · obtain ⟨x, hx, px⟩ := (rr.mono s2).get hd
        refine ⟨⟨_, x, (f.mono s2).sq, hx⟩, fun y H3 ⟨e3, hy⟩ => ?_⟩
        have := hy _ (f.mono s2).sq
        rw [hx] at this
        cases this
        rw [e3]
        exact ⟨Stp.refl, r2, px⟩
      · exact ⟨_, (f.mono s2).sq, by rw [← rr.length]; exact hl⟩, he⟩
/-- a list, frozen or to be left alone meanwhile -/
def okL (x : D) (xs : List D) : HH → Prop := fun G => LsW G x xs
def iLstD (ta : TED) : TID := fun σ G R E => ta σ G (fun x G1 => ∃ xs, LsW G1 x xs ∧ R xs (okL x xs) G1) E
theorem di_lst (ha : DE X W a ta) : DI X W tg a (iLstD ta) := PI.imp (pi_list ha) fun σ H R ⟨σD, G, RD, E, hR, hS, q, hr, he⟩ =>
  ⟨σD, G, _, E, hR, hS, q, fun v H1 d G1 s r p ⟨xs, ls, z⟩ => by
    obtain ⟨a, vs, rfl, h1, rr⟩ := ls.of r p
    refine ⟨a, rfl, ⟨_, h1⟩, hr _ _ _ _ _ s r (fun i H2 G2 s2 r2 ok2 => ?_) z⟩
    obtain ⟨a2, vs2, e2, h2, rr2⟩ := LsW.of ok2 r2 (p.mono s2)
    cases e2
    refine ⟨fun d hd => ?_, fun hl => ⟨_, h2, by rw [← rr2.length]; exact hl⟩⟩
    obtain ⟨x, hx, px⟩ := rr2.get hd
    refine ⟨⟨_, x, h2, hx⟩, fun y H3 ⟨e3, hy⟩ => ?_⟩
    have := hy _ h2
    rw [hx] at this
    cases this
    rw [e3]
    exact ⟨Stp.refl, r2, px⟩, he⟩
/-- range(n), range(a, b) -/
def rgItems (lo : Int) (n : Nat) : List D := (List.range n).map fun i : Nat => D.int (lo + (i : Int))
theorem rgItems_len {lo n} : (rgItems lo n).length = n := by simp [rgItems]
theorem itR_rng {K H G lo n} : ItR K H G (Itr lo n) (rgItems lo n) okT := fun i H2 G2 s2 r2 _ => ⟨fun d hd => by
    have hi : i < n := by
      have := (List.getElem?_eq_some_iff.mp hd).1
      simpa [rgItems] using this
    refine ⟨hi, fun y H3 ⟨e3, hy⟩ => ?_⟩
    have e : d = .int (lo + (i : Int)) := by
      simp [rgItems, hi] at hd
      exact hd.symm
    rw [e3, e, hy]
    exact ⟨Stp.refl, r2, .int _⟩, fun hl => by
    have : n ≤ i := by simpa [rgItems] using hl
    exact this⟩
def iRngD1 (t : TAD) : TID := fun σ G R E => t σ G (fun ds G1 => ∃ j : Int, ds = [.int j] ∧ -(2 ^ 62) ≤ j ∧ j < 2 ^ 62 ∧ R (rgItems 0 j.toNat) okT G1) E
def iRngD2 (t : TAD) : TID := fun σ G R E => t σ G (fun ds G1 => ∃ i j : Int, ds = [.int i, .int j] ∧ (-(2 ^ 62) ≤ i ∧ i < 2 ^ 62 ∧ -(2 ^ 62) ≤ j ∧ j < 2 ^ 62) ∧ R (rgItems i (j - i).toNat) okT G1) E
theorem di_rng1 {p : Pos} (hg : Gl X "range") (hm : X.mg "range" = none) (ha : DA X W [a] t) (hs : starEach [a] X.env = [(false, eval a X.env)] := by rfl) : DI X W tg (.Call (.Name "range" p) [a] [] pos) (iRngD1 t) :=
  PI.imp (pi_range1 hg hm ha hs) fun σ H R ⟨σD, G, RD, E, hR, hS, q, hr, he⟩ => ⟨σD, G, _, E, hR, hS, q, fun vs H1 ds G1 s r p ⟨j, e, l1, l2, z⟩ => by
    subst e
    obtain ⟨v, rfl, p1⟩ := rps1 p
    cases p1
    exact ⟨j, rfl, l1, l2, hr _ _ _ _ _ s r itR_rng z⟩, he⟩
theorem di_rng2 {p : Pos} (hg : Gl X "range") (hm : X.mg "range" = none) (ha : DA X W [a, b] t) (hs : starEach [a, b] X.env = [(false, eval a X.env), (false, eval b X.env)] := by rfl) (hs2 : starEach [b] X.env = [(false, eval b X.env)] := by rfl) :
    DI X W tg (.Call (.Name "range" p) [a, b] [] pos) (iRngD2 t) :=
  PI.imp (pi_range2 hg hm ha hs hs2) fun σ H R ⟨σD, G, RD, E, hR, hS, q, hr, he⟩ => ⟨σD, G, _, E, hR, hS, q, fun vs H1 ds G1 s r p ⟨i, j, e, l, z⟩ => by
    subst e
    obtain ⟨v, w, rfl, p1, p2⟩ := rps2 p
    cases p1; cases p2
    exact ⟨i, j, rfl, l, hr _ _ _ _ _ s r itR_rng z⟩, he⟩

/-! ### for -/
def dFor (wi : TID) (g : TGD) (tb : TSD) : TSD := fun DD σ G => wi σ G (fun items ok G1 => ∃ Iv : List D → SD → HH → Prop, Iv [] σ G1 ∧ (∀ pre σ G, Iv pre σ G → ok G) ∧
  (∀ pre x post σ G, items = pre ++ x :: post → Iv pre σ G → g x σ G (fun σ2 G2 => tb { DD with nx := Iv (pre ++ [x]), ct := Iv (pre ++ [x]), bk := DD.nx } σ2 G2)) ∧ (∀ σ G, Iv items σ G → DD.nx σ G)) (fun x G1 => DD.ex x σ G1)
theorem take_snoc {α : Type} {l : List α} {i : Nat} {x : α} (h : l[i]? = some x) : l.take (i + 1) = l.take i ++ [x] := by
  rw [List.take_succ, h]; rfl
theorem split_at {α : Type} {l : List α} {i : Nat} {x : α} (h : l[i]? = some x) : l = l.take i ++ x :: l.drop (i + 1) := by
  have hi := (List.getElem?_eq_some_iff.mp h).1
  have hx := (List.getElem?_eq_some_iff.mp h).2
  rw [← hx, ← List.drop_eq_getElem_cons hi, List.take_append_drop]
theorem ds_for {iter : Expr} {wi : TID} {g : TGD} (hp : PassesOwn (model X.prog X.w) X.A X.env X.xe) (hc : X.calm = true) (hi : DI X W tg iter wi) (hg : DG X tg g) (hb : DSs X W body tS)
    (hs : ∀ x, foldedSetIterable iter X.env x = pure x := by intro _; rfl) : DS X W (.For tg iter body [] pos) (dFor wi g tS) := PS.imp (ps_for hp hc hi hg hb hs) fun D σ H ⟨σD, G, DD, hR, hS, q, he⟩ => by
  refine ⟨σD, G, _, _, hR, hS, q, fun J H1 items ok G1 s1 r1 itr ⟨Iv, i0, iok, istep, iend⟩ => ?_, he.ex.at hS⟩
  refine ⟨fun i m σ' H' => m = items.length - i ∧ i ≤ items.length ∧ ∃ σD' G', Stp H1 G1 H' G' ∧ RelH X.K H' G' ∧ SRp X.K H' G' σD' σ' ∧ Iv (items.take i) σD' G', ⟨items.length, by simp, Nat.zero_le _, σD, G1, Stp.refl, r1, hS.mono s1, by simpa using i0⟩, ?_⟩
  rintro i m σ' H' ⟨rfl, hi, σD', G', s', r', p', iv⟩
  obtain ⟨j1, j2⟩ := itr i H' G' s' r' (iok _ _ _ iv)
  have s1' := s1.trans s'
  by_cases hlt : i < items.length
  · obtain ⟨d, hd⟩ : ∃ d, items[i]? = some d := ⟨items[i], List.getElem?_eq_getElem hlt⟩
    obtain ⟨jgo, jy⟩ := j1 d hd
    refine .inr ⟨jgo, fun σ'' H'' => ∃ σD'' G'', Stp H1 G1 H'' G'' ∧ RelH X.K H'' G'' ∧ SRp X.K H'' G'' σD'' σ'' ∧ Iv (items.take (i + 1)) σD'' G'', fun σ'' H'' z => ⟨items.length - (i + 1), by omega, rfl, hlt, z⟩, fun x H3 y => ?_⟩
    obtain ⟨s3, r3, px⟩ := jy x H3 y
    have stp := istep _ d _ σD' G' (split_at hd) iv
    refine ⟨d, σD', G', _, r3, p'.mono s3, px, stp, fun σ4 H4 σD4 G4 s4 r4 p4 z => ?_⟩
    have s04 := (s1'.trans s3).trans s4
    have s14 := (s'.trans s3).trans s4
    have nxt : Nx X.K H4 G4 (Iv (items.take i ++ [d])) (fun σ'' H'' => ∃ σD'' G'', Stp H1 G1 H'' G'' ∧ RelH X.K H'' G'' ∧ SRp X.K H'' G'' σD'' σ'' ∧ Iv (items.take (i + 1)) σD'' G'') := fun σ5 H5 σD5 G5 s5 r5 p5 z5 =>
      ⟨σD5, G5, s14.trans s5, r5, p5, by rw [take_snoc hd]; exact z5⟩
    exact ⟨σD4, G4, _, r4, p4, z, nxt, he.rt.mono s04, he.nx.mono s04, nxt, he.ex.mono s04⟩
  · have e : i = items.length := by omega
    subst e
    rw [List.take_length] at iv
    exact .inl ⟨j2 (Nat.le_refl _), he.nx _ _ _ _ s1' r' p' (iend _ _ iv)⟩

/-! ### while -/
def dWhile (c : TTD) (tb : TSD) : TSD := fun DD σ G => ∃ (Iv : SD → HH → Prop) (μ : SD → HH → Nat), Iv σ G ∧ ∀ σ G, Iv σ G →
  c σ G (fun b G1 => if b = true then tb { DD with nx := fun σ' G' => Iv σ' G' ∧ μ σ' G' < μ σ G, ct := fun σ' G' => Iv σ' G' ∧ μ σ' G' < μ σ G, bk := DD.nx } σ G1 else DD.nx σ G1) (fun x G1 => DD.ex x σ G1)
theorem ds_while (hp : PassesOwn (model X.prog X.w) X.A X.env X.xe) (hc : DT X W c tA) (hb : DSs X W body tS) : DS X W (.While c body [] pos) (dWhile tA tS) := PS.imp (ps_while hp hc hb) fun D σ H ⟨σD, G, DD, hR, hS, ⟨Iv, μ, i0, istep⟩, he⟩ => by
  refine ⟨fun m σ' H' => ∃ σD' G', m = μ σD' G' ∧ Stp H G H' G' ∧ RelH X.K H' G' ∧ SRp X.K H' G' σD' σ' ∧ Iv σD' G', ⟨_, σD, G, rfl, Stp.refl, hR, hS, i0⟩, ?_⟩
  rintro m σ' H' ⟨σD', G', rfl, s', r', p', iv⟩
  refine ⟨σD', G', _, _, r', p', istep _ _ iv, fun b H1 G1 s1 r1 z => ?_, (he.ex.mono s').at p'⟩
  have s01 := s'.trans s1
  cases b with
  | false => rw [if_neg Bool.false_ne_true] at z; dsimp only; rw [if_neg Bool.false_ne_true]; exact he.nx _ _ _ _ s01 r1 (p'.mono s1) z
  | true =>
    rw [if_pos rfl] at z
    dsimp only
    rw [if_pos rfl]
    refine ⟨fun σ'' H'' => ∃ σD'' G'', μ σD'' G'' < μ σD' G' ∧ Stp H G H'' G'' ∧ RelH X.K H'' G'' ∧ SRp X.K H'' G'' σD'' σ'' ∧ Iv σD'' G'', fun σ'' H'' ⟨a, b, l, s, r, p, i⟩ => ⟨_, l, a, b, rfl, s, r, p, i⟩, ?_⟩
    have nxt : Nx X.K H1 G1 (fun σ'' G'' => Iv σ'' G'' ∧ μ σ'' G'' < μ σD' G') (fun σ'' H'' => ∃ σD'' G'', μ σD'' G'' < μ σD' G' ∧ Stp H G H'' G'' ∧ RelH X.K H'' G'' ∧ SRp X.K H'' G'' σD'' σ'' ∧ Iv σD'' G'') := fun σ5 H5 σD5 G5 s5 r5 p5 z5 =>
      ⟨σD5, G5, z5.2, s01.trans s5, r5, p5, z5.1⟩
    exact ⟨σD', G1, _, r1, p'.mono s1, z, nxt, he.rt.mono s01, he.nx.mono s01, nxt, he.ex.mono s01⟩
end DL

namespace DL
open PySem PySem.Spec PyProof.Rows L2
open PySem.W (Frag)
variable {X : Cx} {W : WX} {e a b c o : Expr} {es : List Expr} {ta tb tc to : TED} {t u : TAD} {tA tB' : TTD} {pos apos cpos : Pos} {st : Stmt} {rest body : List Stmt}

/-! ### methods of built-in types -/
structure MtD (X : Cx) (T id : String) (ty : D → HH → Prop) (rD : D → List D → HH → QD → Prop) : Prop where
  tyv : ∀ H G d v, RelH X.K H G → Rp X.K H G d v → ty d G → tyV X.K T v H
  rule : ∃ r, MtR X id r ∧ ∀ x xs H Q d ds G QD, RelH X.K H G → Rp X.K H G d x → Rps X.K H G ds xs → rD d ds G QD → Ct X.K H G Q QD → r x xs H Q
def dBM (ty : D → HH → Prop) (rD : D → List D → HH → QD → Prop) (to : TED) (t : TAD) : TED := fun σ G Q E => to σ G (fun x G1 => ty x G1 ∧ t σ G1 (fun ds G2 => rD x ds G2 Q) E) E
def dBM0 (ty : D → HH → Prop) (rD : D → List D → HH → QD → Prop) (to : TED) : TED := fun σ G Q E => to σ G (fun x G1 => ty x G1 ∧ rD x [] G1 Q) E
section
variable {T id : String} {name : Str} {ty : D → HH → Prop} {rD : D → List D → HH → QD → Prop}
theorem de_bm (pa : PlainAttrs T) (slot : Slot T name id) (hty : typeOf (.builtin id) = pure (.type "method_descriptor")) (m : MtD X T id ty rD) (ho : DE X W o to) (ha : DA X W (e :: es) t)
    (hbase : attributeBase o name X.env (eval o X.env) = eval o X.env := by rfl)
    (hfew : ((backTo cpos (starEach (e :: es) X.env)).all (fun x => !x.1) && (backToKw cpos (keywordEach [] X.env)).all (fun x => x.1.isSome)
      && decide ((e :: es).length + ([] : List Keyword).length + (if ([] : List Keyword).isEmpty then 0 else 1) < 30)) = true := by rfl)
    (hline : (apos.endLine == cpos.line) = true := by rfl) (hs : starEach (e :: es) X.env = (false, eval e X.env) :: starEach es X.env := by rfl) (hplain : (backTo cpos (starEach es X.env)).any (·.1) = false := by rfl) :
    DE X W (.Call (.Attribute o name apos) (e :: es) [] cpos) (dBM ty rD to t) :=
  let ⟨_, h1, h2⟩ := m.rule
  PE.imp (pe_bm pa slot hty h1 ho ha hbase hfew hline hs hplain) fun σ H Q ⟨σD, G, QD, E, hR, hS, q, hq, he⟩ => by
    refine ⟨σD, G, _, E, hR, hS, q, fun v H1 d G1 s1 r1 p1 ⟨t1, q1⟩ => ⟨m.tyv _ _ _ _ r1 p1 t1, ?_⟩, he⟩
    refine ⟨σD, G1, _, E, r1, hS.mono s1, q1, fun us H2 ds G2 s2 r2 p2 q2 => ?_, he.mono s1⟩
    exact h2 _ _ _ _ _ _ _ _ r2 (p1.mono s2) p2 q2 (hq.mono (s1.trans s2))
theorem de_bm0 (pa : PlainAttrs T) (slot : Slot T name id) (hty : typeOf (.builtin id) = pure (.type "method_descriptor")) (m : MtD X T id ty rD) (ho : DE X W o to)
    (hbase : attributeBase o name X.env (eval o X.env) = eval o X.env := by rfl) (hline : (apos.endLine == cpos.line) = true := by rfl) : DE X W (.Call (.Attribute o name apos) [] [] cpos) (dBM0 ty rD to) :=
  let ⟨_, h1, h2⟩ := m.rule
  PE.imp (pe_bm0 pa slot hty h1 ho hbase hline) fun σ H Q ⟨σD, G, QD, E, hR, hS, q, hq, he⟩ =>
    ⟨σD, G, _, E, hR, hS, q, fun v H1 d G1 s1 r1 p1 ⟨t1, q1⟩ => ⟨m.tyv _ _ _ _ r1 p1 t1, h2 _ _ _ _ _ _ _ _ r1 p1 .nil q1 (hq.mono s1)⟩, he⟩
end
/-- a list that may change -/
def tyL : D → HH → Prop := fun x G => ∃ p xs, x = .ref p ∧ G p = some (.lst xs)
theorem tyL_v {K H G d v} (r : RelH K H G) (p : Rp K H G d v) (h : tyL d G) : tyV K "list" v H := by
  obtain ⟨q, xs, e1, e2⟩ := h
  subst e1; cases p
  obtain ⟨vs, h, _⟩ := r _ _ e2
  exact .inl ⟨rfl, _, SqL.of h⟩
def mAppend : D → List D → HH → QD → Prop := fun x ds G Q => ∃ p xs y, x = .ref p ∧ ds = [y] ∧ G p = some (.lst xs) ∧ xs.length < sizeLine ∧ Q .non (gput G p (.lst (xs ++ [y])))
theorem mdAppend : MtD X "list" "list.append" tyL mAppend := ⟨fun _ _ _ _ => tyL_v, _, mt_append, fun x us H Q d ds G QD hR hp hps ⟨p, xs, y, e1, e2, e3, l, q⟩ hq => by
  subst e1; subst e2; cases hp
  obtain ⟨w, rfl, py⟩ := rps1 hps
  obtain ⟨vs, h, rr⟩ := hR _ _ e3
  have s3 := Stp.put (H := H) (o := .lst (vs ++ [w])) (od := .lst (xs ++ [y])) e3
  exact ⟨p, vs, w, rfl, rfl, h, by rw [← rr.length]; exact l, hq _ _ _ _ s3 (hR.put e3 ⟨_, upd_same, (rr.mono s3).append (.cons (py.mono s3) .nil)⟩) .non q⟩⟩
def mPop : D → List D → HH → QD → Prop := fun x ds G Q => ∃ p xs y, x = .ref p ∧ ds = [] ∧ G p = some (.lst (xs ++ [y])) ∧ Q y (gput G p (.lst xs))
theorem Rps.dropLast {K H G} {ds : List D} {vs : List V} (r : Rps K H G ds vs) : Rps K H G ds.dropLast vs.dropLast := by
  rw [List.dropLast_eq_take, List.dropLast_eq_take, r.length]
  exact r.take _
theorem mdPop : MtD X "list" "list.pop" tyL mPop := ⟨fun _ _ _ _ => tyL_v, _, mt_pop, fun x us H Q d ds G QD hR hp hps ⟨p, xs, y, e1, e2, e3, q⟩ hq => by
  subst e1; subst e2; cases hp; cases hps
  obtain ⟨vs, h, rr⟩ := hR _ _ e3
  have hl : vs.length = xs.length + 1 := by rw [← rr.length]; simp
  obtain ⟨w, hw, pw⟩ := rr.get (i := xs.length) (d := y) (by simp)
  have s3 := Stp.put (H := H) (o := .lst vs.dropLast) (od := .lst xs) e3
  have rd := rr.dropLast
  rw [List.dropLast_concat] at rd
  exact ⟨p, vs, w, rfl, rfl, h, by rw [hl]; simpa using hw, hq _ _ _ _ s3 (hR.put e3 ⟨_, upd_same, rd.mono s3⟩) (pw.mono s3) q⟩⟩
def mExtend : D → List D → HH → QD → Prop := fun x ds G Q => ∃ p xs y ys, x = .ref p ∧ ds = [y] ∧ G p = some (.lst xs) ∧ Ls G y ys ∧ xs.length + ys.length ≤ sizeLine ∧ Q .non (gput G p (.lst (xs ++ ys)))
theorem mdExtend : MtD X "list" "list.extend" tyL mExtend := ⟨fun _ _ _ _ => tyL_v, _, mt_extend, fun x us H Q d ds G QD hR hp hps ⟨p, xs, y, ys, e1, e2, e3, ls, l, q⟩ hq => by
  subst e1; subst e2; cases hp
  obtain ⟨w, rfl, py⟩ := rps1 hps
  obtain ⟨vs, h, rr⟩ := hR _ _ e3
  obtain ⟨b, us, rfl, hb, rb⟩ := ls.of hR py
  have s3 := Stp.put (H := H) (o := .lst (vs ++ us)) (od := .lst (xs ++ ys)) e3
  exact ⟨p, b, vs, us, rfl, rfl, h, hb, by rw [← rr.length, ← rb.length]; exact l, hq _ _ _ _ s3 (hR.put e3 ⟨_, upd_same, (rr.append rb).mono s3⟩) .non q⟩⟩
theorem de_append (ho : DE X W o to) (ha : DA X W (e :: es) t)
    (hbase : attributeBase o "append" X.env (eval o X.env) = eval o X.env := by rfl)
    (hfew : ((backTo cpos (starEach (e :: es) X.env)).all (fun x => !x.1) && (backToKw cpos (keywordEach [] X.env)).all (fun x => x.1.isSome)
      && decide ((e :: es).length + ([] : List Keyword).length + (if ([] : List Keyword).isEmpty then 0 else 1) < 30)) = true := by rfl)
    (hline : (apos.endLine == cpos.line) = true := by rfl) (hs : starEach (e :: es) X.env = (false, eval e X.env) :: starEach es X.env := by rfl) (hplain : (backTo cpos (starEach es X.env)).any (·.1) = false := by rfl) :
    DE X W (.Call (.Attribute o "append" apos) (e :: es) [] cpos) (dBM tyL mAppend to t) := de_bm PySem.F.plainAttrs_list PySem.F.slot_list_append PySem.F.type_list_append mdAppend ho ha hbase hfew hline hs hplain
theorem de_extend (ho : DE X W o to) (ha : DA X W (e :: es) t)
    (hbase : attributeBase o "extend" X.env (eval o X.env) = eval o X.env := by rfl)
    (hfew : ((backTo cpos (starEach (e :: es) X.env)).all (fun x => !x.1) && (backToKw cpos (keywordEach [] X.env)).all (fun x => x.1.isSome)
      && decide ((e :: es).length + ([] : List Keyword).length + (if ([] : List Keyword).isEmpty then 0 else 1) < 30)) = true := by rfl)
    (hline : (apos.endLine == cpos.line) = true := by rfl) (hs : starEach (e :: es) X.env = (false, eval e X.env) :: starEach es X.env := by rfl) (hplain : (backTo cpos (starEach es X.env)).any (·.1) = false := by rfl) :
    DE X W (.Call (.Attribute o "extend" apos) (e :: es) [] cpos) (dBM tyL mExtend to t) := de_bm PySem.F.plainAttrs_list PySem.F.slot_list_extend PySem.F.type_list_extend mdExtend ho ha hbase hfew hline hs hplain
theorem de_pop (ho : DE X W o to) (hbase : attributeBase o "pop" X.env (eval o X.env) = eval o X.env := by rfl) (hline : (apos.endLine == cpos.line) = true := by rfl) :
    DE X W (.Call (.Attribute o "pop" apos) [] [] cpos) (dBM0 tyL mPop to) := de_bm0 PySem.F.plainAttrs_list PySem.F.slot_list_pop PySem.F.type_list_pop mdPop ho hbase hline

/-! ### comprehensions -/
abbrev W0 : WX := fun _ _ _ _ => False
/-- the slots of the block's own names forgotten -/
def wipeD (σ : SD) : List Nat → SD
  | [] => σ
  | v :: vs => (wipeD σ vs).set v none
theorem SRp.wipe {K H G} {σD : SD} {σ : L2.St} (h : SRp K H G σD σ) : ∀ vs, SRp K H G (wipeD σD vs) (L2.wipe σ vs)
  | [] => h
  | v :: vs => by
    have ih := SRp.wipe h vs
    unfold wipeD L2.wipe
    refine ⟨by simp [ih.len], fun j d e => ?_⟩
    by_cases hj : v = j
    · subst hj
      have hlt : v < (wipeD σD vs).length := by
        have := (List.getElem?_eq_some_iff.mp e).1
        simpa using this
      rw [List.getElem?_set_self hlt] at e
      cases e
    · rw [List.getElem?_set_ne hj] at e ⊢
      exact ih.at_ j d e
/-- the targets: a name, a tuple of targets -/
inductive Tgt where
  | nm (i : Nat) | tp (ts : List Tgt)
mutual
def Tgt.slots : Tgt → List Nat
  | .nm i => [i]
  | .tp ts => slotsL ts
def slotsL : List Tgt → List Nat
  | [] => []
  | t :: ts => t.slots ++ slotsL ts
end
mutual
def Tgt.put : Tgt → D → SD → Option SD
  | .nm i, d, σ => some (σ.set i (some d))
  | .tp ts, .tup ds, σ => putL ts ds σ
  | .tp _, _, _ => none
def putL : List Tgt → List D → SD → Option SD
  | [], [], σ => some σ
  | t :: ts, d :: ds, σ => (t.put d σ).bind (putL ts ds)
  | _, _, _ => none
end
mutual
def Tgt.v (K : Frag) : Tgt → TG
  | .nm i => gName i
  | .tp ts => gTup K ts.length (tgtL K ts)
def tgtL (K : Frag) : List Tgt → TGs
  | [] => gNil
  | t :: ts => gCons (t.v K) (tgtL K ts)
end
theorem wipe_in {σ : L2.St} {i : Nat} : ∀ {vs : List Nat}, i ∈ vs → i < σ.length → (L2.wipe σ vs)[i]? = some none
  | v :: vs, h, hl => by
    unfold L2.wipe
    by_cases hv : v = i
    · subst hv
      exact List.getElem?_set_self (by rw [wipe_length]; exact hl)
    · rw [List.getElem?_set_ne hv]
      refine wipe_in ?_ hl
      rcases List.mem_cons.mp h with z | z
      · exact absurd z.symm hv
      · exact z
theorem wipe_eq {σ σ' : L2.St} {vs : List Nat} (hl : σ.length = σ'.length) (h : ∀ i, i ∉ vs → σ[i]? = σ'[i]?) : L2.wipe σ vs = L2.wipe σ' vs := by
  apply List.ext_getElem?
  intro i
  by_cases hi : i ∈ vs
  · by_cases hlt : i < σ.length
    · rw [wipe_in hi hlt, wipe_in hi (by omega)]
    · rw [List.getElem?_eq_none (by rw [wipe_length]; omega), List.getElem?_eq_none (by rw [wipe_length]; omega)]
  · rw [wipe_out hi, wipe_out hi]
    exact h i hi
/-- two frames that differ at these slots alone -/
def Aside (vs : List Nat) (σ σ' : L2.St) : Prop := σ.length = σ'.length ∧ ∀ i, i ∉ vs → σ[i]? = σ'[i]?
mutual
theorem Tgt.ok {K : Frag} {H : Hp} {G : HH} {vs : List Nat} : ∀ (t : Tgt) {d : D} {v : V} {σD σ2 : SD} {σ : L2.St} {Q : L2.St → Hp → Prop}, (∀ i ∈ t.slots, i ∈ vs) → Rp K H G d v → SRp K H G σD σ → t.put d σD = some σ2 →
    (∀ σ', SRp K H G σ2 σ' → Aside vs σ σ' → Q σ' H) → t.v K v σ H Q
  | .nm i, d, v, σD, σ2, σ, Q, hs, p, h, e, k => by
    simp only [Tgt.put, Option.some.injEq] at e
    subst e
    simp only [Tgt.v]
    refine k _ (h.set i p) ⟨by simp, fun j hj => ?_⟩
    rw [List.getElem?_set_ne]
    intro z
    exact hj (z ▸ hs i (by simp [Tgt.slots]))
  | .tp ts, d, v, σD, σ2, σ, Q, hs, p, h, e, k => by
    cases d with
    | tup ds =>
      cases p with
      | @tup a xs _ f r =>
        simp only [Tgt.put] at e
        obtain ⟨h1, h2⟩ := putL_ok ts (fun i hi => hs i (by simpa [Tgt.slots] using hi)) r h e k
        simp only [Tgt.v]
        exact ⟨a, xs, rfl, f.sq, h2, h1⟩
    | _ => simp [Tgt.put] at e
theorem putL_ok {K : Frag} {H : Hp} {G : HH} {vs : List Nat} : ∀ (ts : List Tgt) {ds : List D} {us : List V} {σD σ2 : SD} {σ : L2.St} {Q : L2.St → Hp → Prop}, (∀ i ∈ slotsL ts, i ∈ vs) → Rps K H G ds us → SRp K H G σD σ → putL ts ds σD = some σ2 →
    (∀ σ', SRp K H G σ2 σ' → Aside vs σ σ' → Q σ' H) → tgtL K ts us σ H Q ∧ us.length = ts.length
  | [], ds, us, σD, σ2, σ, Q, hs, p, h, e, k => by
    cases ds with
    | nil =>
      cases p
      simp only [putL, Option.some.injEq] at e
      subst e
      exact ⟨⟨rfl, k σ h ⟨rfl, fun _ _ => rfl⟩⟩, rfl⟩
    | cons d ds => simp [putL] at e
  | t :: ts, ds, us, σD, σ2, σ, Q, hs, p, h, e, k => by
    cases ds with
    | nil => simp [putL] at e
    | cons d ds =>
      cases p with
      | cons p1 p2 =>
        simp only [putL] at e
        cases e1 : t.put d σD with
        | none => rw [e1] at e; cases e
        | some σ1 =>
          rw [e1] at e
          have e : putL ts ds σ1 = some σ2 := e
          have hs1 : ∀ i ∈ t.slots, i ∈ vs := fun i hi => hs i (by simp [slotsL, hi])
          have hs2 : ∀ i ∈ slotsL ts, i ∈ vs := fun i hi => hs i (by simp [slotsL, hi])
          have len : ∀ σ' , SRp K H G σ1 σ' → (tgtL K ts _ σ' H fun _ _ => True) ∧ _ := fun σ' h' => putL_ok ts (Q := fun _ _ => True) hs2 p2 h' e fun _ _ _ => trivial
          refine ⟨?_, ?_⟩
          · simp only [tgtL]
            refine ⟨_, _, rfl, Tgt.ok t hs1 p1 h e1 fun σ' h' a' => ?_⟩
            exact (putL_ok ts hs2 p2 h' e fun σ3 h3 a3 => k σ3 h3 ⟨a'.1.trans a3.1, fun i hi => (a'.2 i hi).trans (a3.2 i hi)⟩).1
          · have := putL_len ts e
            have l2 := p2.length
            simp at *
            omega
theorem putL_len : ∀ (ts : List Tgt) {ds : List D} {σD σ2 : SD}, putL ts ds σD = some σ2 → ds.length = ts.length
  | [], [], _, _, _ => rfl
  | [], _ :: _, _, _, h => by simp [putL] at h
  | _ :: _, [], _, _, h => by simp [putL] at h
  | t :: ts, d :: ds, σD, σ2, h => by
    simp only [putL] at h
    cases e1 : t.put d σD with
    | none => rw [e1] at h; cases h
    | some σ1 =>
      rw [e1] at h
      have := putL_len ts (show putL ts ds σ1 = some σ2 from h)
      simp [this]
end
/-- tests of a comprehension -/
def DTs (X : Cx) (W : WX) (ifs : List Expr) (t : TTD) : Prop := PTs X ifs (lftT X.K W t)
def dYes : TTD := fun _ G Q _ => Q true G
theorem dts_nil : DTs X W [] dYes := ⟨fun pins s σ H Q I ⟨σD, G, QD, E, hR, hS, q, hq, he⟩ => pts_nil.run pins s σ H Q I (hq _ _ _ Stp.refl hR q)⟩
theorem dts_one (h : DT X W c tA) : DTs X W [c] tA := pts_one h
/-- [e for g in it if c]; fr: the new list is frozen at the end -/
def dLc (fr : Bool) (wi : TID) (g : Tgt) (tt : TTD) (te : TED) (vs : List Nat) : TED := fun σ G Q E => wi σ G (fun items ok G1 => ∀ p, G1 p = none → ∃ Iv : List D → HH → Prop, Iv [] (gput G1 p (.lst [])) ∧ (∀ pre G, Iv pre G → ok G) ∧
  (∀ pre x post G, items = pre ++ x :: post → Iv pre G → ∃ σ2, g.put x (wipeD σ vs) = some σ2 ∧ tt σ2 G (fun b G3 => if b = true then te σ2 G3 (fun y G4 => ∃ acc, G4 p = some (.lst acc) ∧ acc.length < sizeLine ∧ Iv (pre ++ [x]) (gput G4 p (.lst (acc ++ [y])))) (fun _ _ => False) else Iv (pre ++ [x]) G3) (fun _ _ => False)) ∧
  (∀ G, Iv items G → ∃ acc, G p = some (.lst acc) ∧ (if fr = true then Q (.lst acc) (gdel G p) else Q (.ref p) G))) E
theorem de_lc {elt tg iter : Expr} {ifs : List Expr} {scope : Scope} {own : List (Str × Nat)} {wi : TID} {tt : TTD} {te : TED} (fr : Bool) (g : Tgt) (hc : X.calm = true) (hN : X.N.Nodup) (hi : DI X W tg iter wi) (ok : BlkOk X.N X.env.scope scope own)
    (hsl : ∀ i ∈ g.slots, i ∈ own.map (·.2))
    (hg : ∀ (s : Shared) (H : Hp) (C : Addr) (cl : List (Str × Addr)) (fp : List Addr), PG (X.blk s H scope (compEnvC scope cl C X.env) fp) tg (g.v X.K)) (ht : ∀ (s : Shared) (H : Hp) (C : Addr) (cl : List (Str × Addr)) (fp : List Addr), DTs (X.blk s H scope (compEnvC scope cl C X.env) fp) W0 ifs tt)
    (he : ∀ (s : Shared) (H : Hp) (C : Addr) (cl : List (Str × Addr)) (fp : List Addr), DE (X.blk s H scope (compEnvC scope cl C X.env) fp) W0 elt te) (hs : ∀ x, foldedSetIterable iter X.env x = pure x := by intro _; rfl) :
    DE X W (.ListComp elt [⟨tg, iter, ifs, 0⟩] scope pos) (dLc fr wi g tt te (own.map (·.2))) :=
  PE.imp (pe_lc (g := g.v X.K) (tt := lftT X.K W0 tt) (te := lft X.K W0 te) hc hN hi ok hg ht he hs) fun σ H Q ⟨σD, G, QD, E, hR, hS, q, hq, hE⟩ => by
    refine ⟨σD, G, _, E, hR, hS, q, fun J H1 items okk G1 s1 r1 itr z => ?_, hE⟩
    intro p hp
    obtain ⟨Iv, i0, iok, istep, iend⟩ := z p (r1.free hp)
    have sN := Stp.newM (G := G1) (o := .lst []) (od := .lst []) hp
    have rN := r1.newM (o := .lst []) (od := .lst []) hp ⟨[], upd_same, .nil⟩
    refine ⟨fun i m H' => m = items.length - i ∧ i ≤ items.length ∧ ∃ G', Stp H1 G1 H' G' ∧ RelH X.K H' G' ∧ Iv (items.take i) G', ⟨items.length, by simp, Nat.zero_le _, gput G1 p (.lst []), sN, rN, by simpa using i0⟩, ?_⟩
    rintro i m H' ⟨rfl, hi, G', s', r', iv⟩
    obtain ⟨j1, j2⟩ := itr i H' G' s' r' (iok _ _ iv)
    by_cases hlt : i < items.length
    · obtain ⟨d, hd⟩ : ∃ d, items[i]? = some d := ⟨items[i], List.getElem?_eq_getElem hlt⟩
      obtain ⟨jgo, jy⟩ := j1 d hd
      refine .inr ⟨jgo, fun H'' => ∃ G'', Stp H1 G1 H'' G'' ∧ RelH X.K H'' G'' ∧ Iv (items.take (i + 1)) G'', fun H'' z => ⟨items.length - (i + 1), by omega, rfl, hlt, z⟩, fun x H3 y => ?_⟩
      obtain ⟨s3, r3, px⟩ := jy x H3 y
      obtain ⟨σ2, hput, stp⟩ := istep _ d _ G' (split_at hd) iv
      have s13 := s'.trans s3
      have hw := ((hS.mono s1).mono s13).wipe (own.map (·.2))
      refine Tgt.ok g hsl px hw hput fun σ' h' a' => ⟨?_, ?_⟩
      · exact wipe_eq (by rw [← a'.1, wipe_length]) fun i hi => by rw [← a'.2 i hi, wipe_out hi]
      refine ⟨σ2, G', _, _, r3, h', stp, fun b H4 G4 s4 r4 z4 => ?_, exs0⟩
      cases b with
      | false =>
        dsimp only at z4 ⊢
        rw [if_neg Bool.false_ne_true] at z4 ⊢
        exact ⟨G4, s13.trans s4, r4, by rw [take_snoc hd]; exact z4⟩
      | true =>
        dsimp only at z4 ⊢
        rw [if_pos rfl] at z4 ⊢
        refine ⟨σ2, G4, _, _, r4, h'.mono s4, z4, fun w H5 dw G5 s5 r5 p5 ⟨acc, e5, l5, z5⟩ => ?_, exs0⟩
        obtain ⟨vs, h, rr⟩ := r5 _ _ e5
        have s6 := Stp.put (H := H5) (o := .lst (vs ++ [w])) (od := .lst (acc ++ [dw])) e5
        refine ⟨vs, h, by rw [← rr.length]; exact l5, gput G5 p (.lst (acc ++ [dw])), ((s13.trans s4).trans s5).trans s6, r5.put e5 ⟨_, upd_same, (rr.mono s6).append (.cons (p5.mono s6) .nil)⟩, ?_⟩
        rw [take_snoc hd]; exact z5
    · have e : i = items.length := by omega
      subst e
      rw [List.take_length] at iv
      refine .inl ⟨j2 (Nat.le_refl _), ?_⟩
      obtain ⟨acc, ea, z⟩ := iend _ iv
      have s1' := s1.trans s'
      cases fr with
      | true =>
        rw [if_pos rfl] at z
        exact hq _ _ _ _ (s1'.trans Stp.del) r'.del (thaw_lst r' ea) z
      | false =>
        rw [if_neg Bool.false_ne_true] at z
        exact hq _ _ _ _ s1' r' (.ref p) z
end DL

namespace DL
open PySem PySem.Spec PyProof.Rows L2
open PySem.W (Frag)

/-! ### a def keeps its promise -/
def startD (N : List Str) (ds : List D) : SD := ds.map some ++ List.replicate (N.length - ds.length) none
theorem SRp.start {K : Frag} {H G} {N : List Str} {ds : List D} {vs : List V} (r : Rps K H G ds vs) : SRp K H G (startD N ds) (L2.start N vs) := by
  have hl := r.length
  refine ⟨by simp [startD, L2.start, hl], fun i d e => ?_⟩
  unfold startD at e
  by_cases hi : i < ds.length
  · rw [List.getElem?_append_left (by simpa using hi), List.getElem?_map] at e
    cases e1 : ds[i]? with
    | none => rw [e1] at e; cases e
    | some d' =>
      rw [e1] at e
      cases e
      obtain ⟨v, hv, rv⟩ := r.get e1
      refine ⟨v, ?_, rv⟩
      unfold L2.start
      rw [List.getElem?_append_left (by rw [List.length_map]; omega), List.getElem?_map, hv]
      rfl
  · rw [List.getElem?_append_right (by simpa using hi), List.getElem?_replicate] at e
    split at e <;> cases e
section
variable {P : Program} {w : World} {K : Frag} {mg : Str → Option Value} {base : Heap}
/-- the wish of a def about exceptions -/
abbrev WD (E : XK) : WX := fun cls d _ H => E cls d H
theorem FunG.ok {x qual : Str} {st : Stmt} {f : Addr} {fd : FuncData} {N ps : List Str} {k : Nat} {sp : SpD} (F : Fun K x qual st f fd) (S : FnScope N ps (defScope st)) (len : ∀ ds G Q E, sp ds G Q E → ds.length = ps.length)
    (hbody : ∀ (cdv : Value) (A : Around) (outer : List Env) (s : Shared) (H : Hp) (E : XK), A.guards = some [] → Room k (A.deeper (envOfC qual (defScope st) s.heap.objs.size f cdv)) →
      ∃ t, DSs (cxOf (L2.CX P w) P w K mg base N qual (defScope st) f cdv A outer s H E) (WD E) (defBody st) t ∧
        ∀ ds G Q EX, sp ds G Q EX → t { nx := fun _ G' => Q .non G', rt := Q, ex := fun x _ G' => EX x G' } (startD N ds) G) : FnG P w K mg base (k + 1) f fd ps sp := by
  obtain ⟨oc, od, kV, doc, pm, an, cdv, ct, osl, rfl, lk, hcd⟩ := F.ex
  refine ⟨len, fun A outer s H args us vs Q E hgd hr e0 hb r hsp => ?_⟩
  obtain ⟨ds, G, QD, EX, hR, hrp, hq, hct, hex⟩ := hsp
  have inK : K.In s.heap := e0.mod.kin.keeps fun b o q => (e0.bs b o q).1
  have nolim : s.heap.NoLimit := e0.mod.nolimit.keeps fun b o q => (e0.bs b o q).1
  have hvl : vs.length = ps.length := by rw [← hrp.length]; exact len _ _ _ _ hq
  have kinds : ∀ y ∈ ps.zip us, (defScope st).names.lookup y.1 = some .local ∨ ((defScope st).names.lookup y.1 = some .cell ∧ ((cellsFrom (s.heap.objs.size + 1) (defScope st).names []).lookup y.1).isSome = true) := by
    rintro ⟨n, v⟩ hy
    rcases S.par n (List.of_mem_zip hy).1 with q | q
    · exact .inl q
    · exact .inr ⟨q, PySem.W.cellsFrom_some _ _ _ (.inl q)⟩
  refine codeAny_call_function hr.depth (inK _ _ lk) rfl S.co S.gen rfl (PySem.W.codeRec_of inK hcd) (hb _ _ _ _ ?_)
  refine wpAny_newFunctionEnv_cells S.kind kinds fun env henv s1 xc => ?_
  subst henv
  refine ⟨nolim.keeps xc.toInCall.keep, codeAny_func ?_⟩
  obtain ⟨t, ht, hv⟩ := hbody cdv A outer s H E hgd (hr.deeper _)
  have I0 := inv_start (CX := L2.CX P w) (E := E) S hr.hd e0 hvl r xc
  refine wpAny_mono (ht.run [] s1 (L2.start N vs) H { nx := fun _ H' => Q .non H', rt := Q } I0 ?_) (fun fl s' hs => ?_) fun e s' hs => hs
  · refine ⟨startD N ds, G, _, hR, SRp.start hrp, hv ds G QD EX hq, ⟨fun _ H' _ G' s r _ z => hct _ _ _ _ s r .non z, hct, fun _ _ _ _ _ _ _ z => z.elim, fun _ _ _ _ _ _ _ z => z.elim, fun x cls d _ _ H' G' s r _ p z => hex x cls d H' G' s r p z⟩⟩
  · cases fl with
    | ret u =>
      obtain ⟨v, σ', H', J, rv, q⟩ := hs
      exact ⟨v, H', J.os, J.bare, J.base, J.hok, rv, q⟩
    | next =>
      obtain ⟨σ', H', J, q⟩ := hs
      exact ⟨V.non, H', J.os, J.bare, J.base, J.hok, rfl, q⟩
    | brk => exact hs.elim fun _ ⟨_, _, z⟩ => z.elim
    | cont => exact hs.elim fun _ ⟨_, _, z⟩ => z.elim
end

/-! ### the law -/
/-- the bits of a script's numbers -/
def BB : Nat := 1048576
def Bits (ns : List Int) : Prop := ∀ z ∈ ns, z.natAbs < 2 ^ BB
theorem bits_of {z : Int} {b : Nat} (h : Builtin.Int.intBits z ≤ b) : z.natAbs < 2 ^ b := by
  unfold Builtin.Int.intBits at h
  by_cases e : z = 0
  · subst e; exact Nat.pos_of_ne_zero (by simp)
  · rw [if_neg (by simpa using e)] at h
    exact (Nat.log2_lt (by omega)).mp (by omega)
/-- what the law's def promises: of a script it gives True -/
def spLaw (n : Nat) : SpD := fun ds G Q _ => ∃ ns : List Int, ds = [.wls (ns.map D.int)] ∧ ns.length ≤ n ∧ Bits ns ∧ G = (fun _ => none) ∧ ∀ G', Q (.bl true) G'
theorem law_callG {P : Program} {w : World} {K : Frag} {mg mb : Str → Option Value} {n k : Nat} {fa a : Addr} {fd : FuncData} {x : Str} {s₁ : Shared} {vs : List Value} {ns : List Int}
    (KX : K.In s₁.heap) (hns : s₁.heap.Ns mainGlobals mg) (hb : s₁.heap.Ns builtinsNs mb) (hbb : ∀ x : Str, x ≠ "__name__" → mb x = bootBuiltins x) (hlim : s₁.heap.NoLimit) (hg : s₁.gens = #[])
    (ha : s₁.heap.get? a = some { cls := .type "list", data := .seq vs.toArray }) (hi : IntsAre vs ns) (hl : ns.length ≤ n) (hbt : Bits ns) (hn : n ≤ sizeLine) (hr : Room k callerA)
    (F : ∀ base : Heap, K.In base → base.Ns mainGlobals mg → FnG P w K mg base k fa fd [x] (spLaw n)) (hbind : ∀ (s : Shared) (u : Value), BindsTo s fd ⟨[u], []⟩ [(x, u)]) :
    codeAny (model P w) callerA (.call (.ref fa) ⟨[.ref a], []⟩) (fun r s' => r = .ok (.ret (.bool true)) ∧ OldK s₁.heap s'.heap ∧ s'.os = s₁.os ∧ AllBare s'.gens) s₁ := by
  have rv := vals_ints hi
  have lenV := hi.length
  have hl' : ns.length ≤ sizeLine := Nat.le_trans hl hn
  -- the abstract heap: the script locked, if it is none of the written part
  obtain ⟨H, hO, hS, hok, hA, hK⟩ : ∃ H : Hp, Only H ∧ (Rd H a (.lst (ns.map V.int)) ∨ ∃ (o : Obj) (its : Array Value) (n : Nat), K.lookup a = some o ∧ o.cls = .type "list" ∧ o.dict = none ∧ o.data = .seq its n ∧ its.size ≤ sizeLine ∧ Vals (ns.map V.int) its.toList) ∧
      HOk P w H s₁.heap ∧ (∀ b, H b ≠ none → b = a) ∧ (H a ≠ none → K.lookup a = none) := by
    cases hk : K.lookup a with
    | some o =>
      have e := KX a o hk
      rw [ha] at e
      cases e
      exact ⟨fun _ => none, fun _ => .inl rfl, .inr ⟨_, vs.toArray, _, rfl, rfl, rfl, rfl, by rw [List.size_toArray, lenV]; exact hl', by simpa using rv⟩, (by intro b u z; cases z), fun b z => absurd rfl z, fun z => absurd rfl z⟩
    | none =>
      refine ⟨fun b => if b = a then some (.frz { cls := .type "list", data := .seq vs.toArray } (.lst (ns.map V.int))) else none, fun b => ?_, .inl (.inr ⟨_, if_pos rfl⟩), fun b u z => ?_, fun b z => ?_, fun _ => rfl⟩
      · by_cases hb : b = a
        · exact .inr ⟨_, _, if_pos hb⟩
        · exact .inl (if_neg hb)
      · by_cases hb : b = a
        · have z' := (if_pos hb).symm.trans z
          cases z'
          subst hb
          exact ⟨ha, by rw [List.length_map]; exact hl', vs, _, rv, ha⟩
        · exact absurd ((if_neg hb).symm.trans z) (by simp)
      · by_cases hb : b = a
        · exact hb
        · exact absurd (if_neg hb) z
  have baseAt : ∀ {b : Addr} {o : Obj}, s₁.heap.get? b = some o → H b = none → (hidT s₁.heap H).get? b = some o := fun q z => hidT_get q z
  have noDict : ∀ {b : Addr} {o : Obj} {es : Array DictEntry} {ep : Nat}, s₁.heap.get? b = some o → o.data = .dict es ep → H b = none := by
    intro b o es ep q dd
    cases z : H b with
    | none => rfl
    | some u =>
      have eb : b = a := hA b (by rw [z]; simp)
      subst eb
      rw [ha] at q; cases q
      cases (show Data.seq vs.toArray _ = Data.dict es ep from dd)
  have nsB : ∀ {b : Addr} {m : Str → Option Value}, s₁.heap.Ns b m → (hidT s₁.heap H).Ns b m := by
    rintro b m ⟨o, es, ep, q, dd, rest⟩
    exact ⟨o, es, ep, baseAt q (noDict q dd), dd, rest⟩
  have inB : K.In (hidT s₁.heap H) := by
    intro b o q
    refine baseAt (KX b o q) ?_
    cases z : H b with
    | none => rfl
    | some u =>
      have eb : b = a := hA b (by rw [z]; simp)
      subst eb
      rw [hK (by rw [z]; simp)] at q; cases q
  have hM : Mod K mg (hidT s₁.heap H) := ⟨inB, nsB hns, ⟨mb, nsB hb, hbb⟩, let ⟨mc, z1, z2⟩ := hlim; ⟨mc, nsB z1, z2⟩⟩
  have e0 : Env0 P w K mg (hidT s₁.heap H) callerA [] s₁ H := ⟨rfl, hM, fun b o q => of_hidT q, Nat.le_of_eq (hidT_size _ _), trivial, fun b z => absurd (show b ∈ ([] : List Addr) from z) (by simp), hok, .of_eq hg⟩
  have hsp : lsp K (spLaw n) [.ref a] H (fun v _ => v = .bl true) fun _ _ _ => False := by
    refine ⟨[.wls (ns.map D.int)], fun _ => none, fun d _ => d = .bl true, fun _ _ => False, (by intro p o z; cases z), .cons (.wls ?_ (Rps.of_ints ns)) .nil, ⟨ns, rfl, hl, hbt, rfl, fun _ => rfl⟩, fun v H' d G' _ _ p z => ?_, fun _ _ _ _ _ _ _ _ z => z⟩
    · exact hS.elim (fun z => .inl ⟨z, rfl⟩) .inr
    · subst z; cases p; rfl
  refine codeAny_mono ((F _ inB (nsB hns)).run callerA [] s₁ H ⟨[.ref a], []⟩ [.ref a] [.ref a] _ _ rfl hr e0 (hbind s₁ (.ref a)) (.cons rfl .nil) hsp) fun r s' h => ?_
  cases r with
  | error e =>
    obtain ⟨_, _, _, _, _, _, _, _, _, _, _, _, z⟩ := h
    exact z.elim
  | ok fl =>
    cases fl with
    | next => exact False.elim h
    | brk => exact False.elim h
    | cont => exact False.elim h
    | ret u =>
      obtain ⟨v, H', os, bare, un, hok', r', q⟩ := h
      have q' : v = .bl true := q
      subst q'
      obtain rfl : u = Value.bool true := r'
      refine ⟨rfl, OldK.of_keep fun b o q => ?_, os, bare⟩
      cases z : H b with
      | none => exact un.keep b o q z (by intro y; exact absurd (show b ∈ ([] : List Addr) from y) (by simp)) (by simp)
      | some u =>
        rcases hO b with y | ⟨ob, xs, y⟩
        · rw [z] at y; cases y
        · obtain ⟨e1, _⟩ := hok b _ y
          obtain ⟨e2, _⟩ := hok' b _ (un.frzs b ob _ y)
          rw [q] at e1; cases e1
          exact e2
theorem walkG {l : PySem.W.OpenLaw} {n k : Nat} {q : Program} {loose : List Str} {XP : (Str → Option Value) → Heap → Prop} {YP : World → Heap → Prop} {d : DefRec} {K : Params → Frag} {x : Str}
    (hn : l.most = some n) (hn2 : n ≤ sizeLine) (hdf : d.params.defaults = []) (hr : Room k callerA) (hY : ∀ (w : World) (h : Heap), YP w h → (K w.params).In h)
    (F : ∀ (w : World) (mg : Str → Option Value) (fa : Addr) (h : Heap), (K w.params).In h → h.Ns mainGlobals mg → mg d.name = some (.ref fa) →
      ∃ fd : FuncData, (∀ (s : Shared) (u : Value), BindsTo s fd ⟨[u], []⟩ [(x, u)]) ∧
        ∀ base : Heap, (K w.params).In base → base.Ns mainGlobals mg → FnG l.prog w (K w.params) mg base k fa fd [x] (spLaw n)) :
    PySem.W.WalkO q loose XP YP l.row.toRowW d [] (fun f vs => PySem.call f vs) := by
  refine Att.attach_callB hn hdf fun w s₀ s₁ mg mb fa o pm cd doc a vs ns G Y ho hd hcd hmg hobj hints hlen hbits hg => ?_
  have KX := hY w _ Y
  obtain ⟨fd, hb, hF⟩ := F w mg fa _ KX G.T.g hmg
  exact law_callG KX G.T.g G.T.b G.T.builtins G.T.nolimit hg hobj hints hlen (fun z hz => bits_of (hbits z hz)) hn2 hr hF hb
end DL

namespace DL
open PySem PySem.Spec PyProof.Rows L2
open PySem.W (Frag)
variable {X : Cx} {W : WX} {e a b c o : Expr} {es : List Expr} {ta tb tc to : TED} {t u tk : TAD} {tA tB' : TTD} {pos apos cpos : Pos} {st : Stmt} {rest body : List Stmt} {kws : List Keyword}

/-! ### keywords -/
/-- the arguments in the parameters' order -/
def pick {α : Type} (perm : List Nat) (l : List α) : List α := perm.filterMap fun i => l[i]?
theorem Vals.pick : ∀ {perm : List Nat} {xs : List V} {us : List Value}, Vals xs us → Vals (DL.pick perm xs) (DL.pick perm us)
  | [], _, _, _ => .nil
  | i :: perm, xs, us, r => by
    have ih := Vals.pick (perm := perm) r
    unfold DL.pick at ih ⊢
    cases e : xs[i]? with
    | none =>
      rw [List.filterMap_cons_none e, List.filterMap_cons_none (r.none_of e)]
      exact ih
    | some x =>
      obtain ⟨y, hy, ry⟩ := r.get e
      rw [List.filterMap_cons_some e, List.filterMap_cons_some hy]
      exact .cons ry ih
theorem Rps.pick {K H G} : ∀ {perm : List Nat} {ds : List D} {vs : List V}, Rps K H G ds vs → Rps K H G (DL.pick perm ds) (DL.pick perm vs)
  | [], _, _, _ => .nil
  | i :: perm, ds, vs, r => by
    have ih := Rps.pick (perm := perm) r
    unfold DL.pick at ih ⊢
    cases e : ds[i]? with
    | none =>
      have e2 : vs[i]? = none := List.getElem?_eq_none (by rw [← r.length]; exact List.getElem?_eq_none_iff.mp e)
      rw [List.filterMap_cons_none e, List.filterMap_cons_none e2]
      exact ih
    | some x =>
      obtain ⟨y, hy, ry⟩ := r.get e
      rw [List.filterMap_cons_some e, List.filterMap_cons_some hy]
      exact .cons ry ih
structure KBd (K : Frag) (fd : FuncData) (ps : List Str) (n : Nat) (ks : List Str) (perm : List Nat) : Prop where
  to : ∀ (s : Shared) (us ws : List Value), K.In s.heap → us.length = n → ws.length = ks.length → BindsTo s fd ⟨us, ks.zip ws⟩ (ps.zip (pick perm (us ++ ws)))
theorem fun_kbd {K : Frag} {x qual : Str} {st : Stmt} {f : Addr} {fd : FuncData} {ps ks : List Str} {n : Nat} {perm : List Nat} (F : Fun K x qual st f fd)
    (h : ∀ (kV doc pm : Value) (an : Option Addr) (cdv ct : Value) (us ws : List Value), us.length = n → ws.length = ks.length → bindArgs (PySem.W.fnOf x qual (defArgs st) (defBody st) (defScope st) .none kV doc pm an cdv ct) ⟨us, ks.zip ws⟩ = pure (ps.zip (pick perm (us ++ ws)))) : KBd K fd ps n ks perm := by
  obtain ⟨oc, od, kV, doc, pm, an, cdv, ct, osl, rfl, _, _⟩ := F.ex
  exact ⟨fun s us ws _ h1 h2 => .of_eq (h kV doc pm an cdv ct us ws h1 h2)⟩
def DK (X : Cx) (W : WX) (kws : List Keyword) (t : TAD) : Prop := PK X kws (lftA X.K W t)
theorem PK.imp {X : Cx} {es : List Keyword} {t t' : TA} (h : PK X es t) (i : ∀ σ H Q, t' σ H Q → t σ H Q) : PK X es t' := ⟨fun pos pins s σ H Q I q => h.run pos pins s σ H Q I (i σ H Q q)⟩
theorem dk_nil : DK X W [] dNil := PK.imp pk_nil fun σ H Q ⟨σD, G, QD, E, hR, hS, q, hq, he⟩ => hq _ _ _ _ Stp.refl hR .nil q
theorem dk_cons {nm : Option Str} {kpos : Pos} (ha : DE X W a ta) (hr : DK X W kws t) : DK X W (⟨nm, a, kpos⟩ :: kws) (dCons ta t) :=
  PK.imp (pk_cons ha hr) fun σ H Q ⟨σD, G, QD, E, hR, hS, q, hq, he⟩ => by
    refine ⟨σD, G, _, E, hR, hS, q, fun v1 H1 d1 G1 s1 r1 p1 q1 => ?_, he⟩
    refine ⟨σD, G1, _, E, r1, hS.mono s1, q1, fun vs H2 ds G2 s2 r2 p2 q2 => ?_, he.mono s1⟩
    exact hq _ _ _ _ (s1.trans s2) r2 (.cons (p1.mono s2) p2) q2
def dCallK (n m : Nat) (perm : List Nat) (sp : SpD) (t tk : TAD) : TED := fun σ G Q E => t σ G (fun ds G1 => tk σ G1 (fun zs G2 => ds.length = n ∧ zs.length = m ∧ sp (pick perm (ds ++ zs)) G2 Q E) E) E
section
variable {k : Nat} {f : Addr} {fd : FuncData} {ps ks : List Str} {sp : SpD} {x : Str} {p : Pos} {n : Nat} {perm : List Nat}
theorem run_callK {pins : List (Addr × Obj)} {σ : L2.St} {H : Hp} {s : Shared} {Q : VK} {us ws : List Value} {vs : List V} (F : FnG X.prog X.w X.K X.mg X.base k f fd ps sp) (hg : X.A.guards = some []) (hr : Room k X.A) (hb : KBd X.K fd ps n ks perm) (tkw : Takes X W)
    (I : Inv X pins σ H s) (r : Vals vs (us ++ ws)) (h1 : us.length = n) (h2 : ws.length = ks.length) (h : lsp X.K sp (pick perm vs) H Q (WE W σ)) : wpAny (model X.prog X.w) X.A (call (.ref f) us (ks.zip ws)) (EP X pins σ Q) X.xe s := by
  refine wpAny_call (codeAny_mono (run_any F hg hr tkw I (hb.to s us ws I.kIn h1 h2) (Vals.pick r) h) fun r s' hq => ?_)
  cases r with
  | error e => exact hq
  | ok fl =>
    cases fl with
    | ret u => exact hq
    | next => exact False.elim hq
    | brk => exact False.elim hq
    | cont => exact False.elim hq
/-- what stands behind the arguments of a call with keywords -/
def tCK (n m : Nat) (perm : List Nat) (sp : Sp) (E : L2.St → XK) (t tk : TA) : TE := fun σ H Q => t σ H fun vs H1 => tk σ H1 fun zs H2 => vs.length = n ∧ zs.length = m ∧ sp (pick perm (vs ++ zs)) H2 Q (E σ)
theorem lft_callK {K : Frag} {m : Nat} {σ H Q} (h : lft K W (dCallK n m perm sp t tk) σ H Q) : tCK n m perm (lsp K sp) (WE W) (lftA K W t) (lftA K W tk) σ H Q := by
  obtain ⟨σD, G, QD, E, hR, hS, ht, hq, he⟩ := h
  refine ⟨σD, G, _, E, hR, hS, ht, fun vs H1 ds G1 s1 r1 p1 q1 => ?_, he⟩
  refine ⟨σD, G1, _, E, r1, hS.mono s1, q1, fun zs H2 es G2 s2 r2 p2 ⟨l1, l2, q2⟩ => ?_, he.mono s1⟩
  exact ⟨by rw [← p1.length]; exact l1, by rw [← p2.length]; exact l2, pick perm (ds ++ es), G2, QD, E, r2, Rps.pick ((p1.mono s2).append p2), q2, hq.mono (s1.trans s2), he.mono (s1.trans s2)⟩
theorem de_callK0 {m : Nat} (F : FnG X.prog X.w X.K X.mg X.base k f fd ps sp) (hgd : X.A.guards = some []) (hr : Room k X.A) (hg : Gl X x) (hm : X.mg x = some (.ref f)) (hk : PySem.W.keepIn X.K (.ref f) = true) (hb : KBd X.K fd ps 0 ks perm) (tkw : Takes X W) (hkw : DK X W kws tk)
    (hlen : ks.length = m := by rfl) (hall : (backToKw pos (keywordEach kws X.env)).all (·.1.isSome) = true := by rfl) (hks : (backToKw pos (keywordEach kws X.env)).filterMap (·.1) = ks := by rfl) (hdb : (x == ("__debug__" : Str)) = false := by decide)
    (hpl : ((backTo pos (starEach [] X.env)).any (·.1) || (backToKw pos (keywordEach kws X.env)).any (·.1.isNone)) = false := by rfl) :
    DE X W (.Call (.Name x p) [] kws pos) (dCallK 0 m perm sp dNil tk) := by
  subst hlen
  refine PE.imp (t := tCK 0 ks.length perm (lsp X.K sp) (WE W) tNil (lftA X.K W tk)) ⟨fun pins s σ H Q I h => ?_⟩ fun σ H Q h => ?_
  · refine wpAny_Call_Name_kw (ld_glob I hg hm ?_ hdb)
    refine PySem.W.callWith_KW0 (h₀ := X.base) I.ok.mod.kin hk hall ?_ hpl
    have hkw' : PK X kws (lftA X.K W tk) := hkw
    refine thn (hkw'.run pos pins s σ H _ I h) fun ws s2 ⟨zs, H2, I2, rz, l1, l2, q2⟩ => ⟨I2.kIn, ?_⟩
    rw [hks]
    exact run_callK (us := []) (vs := zs) F hgd hr hb tkw I2 rz rfl (by rw [← rz.length]; exact l2) (by simpa using q2)
  · obtain ⟨σD, G, QD, E, hR, hS, ht, hq, he⟩ := h
    refine ⟨σD, G, _, E, hR, hS, ht, fun zs H2 es G2 s2 r2 p2 ⟨l1, l2, q2⟩ => ?_, he⟩
    exact ⟨rfl, by rw [← p2.length]; exact l2, pick perm ([] ++ es), G2, QD, E, r2, Rps.pick (Rps.append .nil p2), q2, hq.mono s2, he.mono s2⟩
theorem de_callK {m : Nat} (F : FnG X.prog X.w X.K X.mg X.base k f fd ps sp) (hgd : X.A.guards = some []) (hr : Room k X.A) (hg : Gl X x) (hm : X.mg x = some (.ref f)) (hk : PySem.W.keepIn X.K (.ref f) = true) (hb : KBd X.K fd ps n ks perm) (tkw : Takes X W) (ha : DA X W (e :: es) t) (hkw : DK X W kws tk)
    (hlen : ks.length = m := by rfl) (hall : (backToKw pos (keywordEach kws X.env)).all (·.1.isSome) = true := by rfl) (hks : (backToKw pos (keywordEach kws X.env)).filterMap (·.1) = ks := by rfl) (hdb : (x == ("__debug__" : Str)) = false := by decide)
    (he : starEach (e :: es) X.env = (false, eval e X.env) :: starEach es X.env := by rfl)
    (hpl : ((backTo pos (starEach (e :: es) X.env)).any (·.1) || (backToKw pos (keywordEach kws X.env)).any (·.1.isNone)) = false := by rfl) :
    DE X W (.Call (.Name x p) (e :: es) kws pos) (dCallK n m perm sp t tk) := by
  subst hlen
  refine PE.imp (t := tCK n ks.length perm (lsp X.K sp) (WE W) (lftA X.K W t) (lftA X.K W tk)) ⟨fun pins s σ H Q I h => ?_⟩ fun _ _ _ => lft_callK
  refine wpAny_Call_Name_kw (ld_glob I hg hm ?_ hdb)
  have ha' : PA X (e :: es) (lftA X.K W t) := ha
  have hkw' : PK X kws (lftA X.K W tk) := hkw
  refine PySem.W.callWith_KW (h₀ := X.base) I.ok.mod.kin hk hall (thn (ha'.run pos pins s σ H _ I h) fun us s1 ⟨vs, H1, I1, r, q⟩ => ?_) hpl he
  refine thn (hkw'.run pos pins s1 σ H1 _ I1 q) fun ws s2 ⟨zs, H2, I2, rz, l1, l2, q2⟩ => ⟨I2.kIn, ?_⟩
  rw [hks]
  exact run_callK (us := us) F hgd hr hb tkw I2 (r.append rz) (by rw [← r.length]; exact l1) (by rw [← rz.length]; exact l2) q2
end

/-! ### sums of rules, by name -/
def aAny : D → D → HH → QD → Prop := fun x y G Q => oI (fun _ _ => True) (fun i j => .int (i + j)) x y G Q ∨ aStr x y G Q ∨ aLst x y G Q ∨ aTup x y G Q
theorem oAddTup : OpD X (binaryOp .Add) aTup := ⟨_, op_catA, fun x y H Q dx dy G QD hR px py ⟨xs, ys, e1, e2, l, q⟩ hq => by
  subst e1; subst e2
  cases px with
  | @tup a vs _ f r =>
    cases py with
    | @tup b us _ g r' =>
      refine ⟨a, b, vs, us, rfl, rfl, f.sq, g.sq, by rw [← r.length, ← r'.length]; exact l, fun e => ?_, fun _ e => ?_, fun _ _ p hp => hq.tup hR hp (r.append r') q⟩
      · subst e
        cases r
        exact hq.now hR (.tup g r') q
      · subst e
        cases r'
        rw [List.append_nil] at q
        exact hq.now hR (.tup f r) q⟩
theorem oAdd : OpD X (binaryOp .Add) aAny := oAddI.or (oAddStr.or (oAddLst.or oAddTup))
/-! tuple * int -/
theorem tuple_mul1 (l : Addr) (items : Array Value) (n : Nat) (dd : Option Addr) (sl : Array (Option Value)) (u : Tok) :
    Meets (Builtin.«tuple.__mul__» ⟨[.ref l, .int 1 u], []⟩) (fun _ R s => s.heap.get? l = some { cls := .type "tuple", dict := dd, data := .seq items n, slots := sl } ∧
      R (.ok (.ret (Value.ref l))) s) :=
  .of_wp fun prog w A R s h => by
    obtain ⟨hp, g, d, tk, os⟩ := s
    obtain ⟨hl, h⟩ := h
    have f1 := AutoSeq1.idx_int
    have c0 : (decide ((1 : Int) < -(2 ^ 63)) || decide ((1 : Int) ≥ 2 ^ 63)) = false := by decide
    have c1 : (items.isEmpty || (1 : Int) == 1) = true := by simp
    wp_walk using wpAny_loadPart' hl
    repeat (first
      | (refine wpAny_ite_false (decide_eq_false (by rw [c0]; exact Bool.false_ne_true)) ?_; wp_walk using wpAny_loadPart' hl)
      | (refine wpAny_ite_true (decide_eq_true (by rw [c1])) ?_; wp_walk using wpAny_loadPart' hl))
    exact ⟨_, rfl, h⟩
def rRepT1 (K : PySem.W.Frag) : R2 := fun x y H Q => ∃ l xs, x = .ref l ∧ y = .int 1 ∧ SqT K H l xs ∧ Q (.ref l) H
theorem op_repT1 {X : Cx} : OpR X (binaryOp .Mult) (rRepT1 X.K) := by
  intro pins s σ H x y v u Q I rx ry h
  obtain ⟨l, xs, rfl, rfl, hT, q⟩ := h
  cases rx
  obtain ⟨t, rfl⟩ := ry
  obtain ⟨its, r, ⟨⟨cls, dd, data, sl⟩, ho, hc, n, hd⟩, hs⟩ := I.tuple hT
  simp only at hc hd
  subst hc hd
  refine wpAny_binaryOp_repeat_ref (T := "tuple") (U := "int") (by decide) ⟨_, ho, rfl⟩ (fun s' => typeIs_int s' 1 t) noFill_tuple_mul F.fills_int_mul F.slot_int_rmul repeat_tuple F.slot_int_index.lookup
    (call_meets F.slot_int_rmul (typeIs_int s 1 t) F.entry_int_rmul (F.args_int_rmul_2 _ _) (int_rmul_tuple 1 t l its.toArray n dd sl)
      ⟨ho, rfl, ⟨_, ho, rfl⟩, call_meets F.slot_tuple_mul ⟨_, ho, rfl⟩ F.entry_tuple_mul (F.args_tuple_mul_2 _ _) (tuple_mul1 l its.toArray n dd sl t) ⟨ho, ?_⟩⟩)
  exact ⟨.ref l, _, I, rfl, q⟩
def mRepT : D → D → HH → QD → Prop := fun x y G Q => ∃ xs k, x = .tup xs ∧ y = .int k ∧ xs ≠ [] ∧ 1 ≤ k ∧ k ≤ 1000 ∧ xs.length ≤ 1000 ∧ Q (.tup (List.replicate k.toNat xs).flatten) G
theorem oMulT1 {X : Cx} : OpD X (binaryOp .Mult) (fun x y G Q => ∃ xs, x = .tup xs ∧ y = .int 1 ∧ Q (.tup xs) G) := ⟨_, op_repT1, fun x y H Q dx dy G QD hR px py ⟨xs, e1, e2, q⟩ hq => by
  subst e1; subst e2
  cases py
  cases px with
  | @tup a vs _ f r => exact ⟨a, vs, rfl, rfl, f.sq, hq.now hR (.tup f r) q⟩⟩
theorem oMulT2 {X : Cx} : OpD X (binaryOp .Mult) (fun x y G Q => ∃ xs k, x = .tup xs ∧ y = .int k ∧ xs ≠ [] ∧ 2 ≤ k ∧ k ≤ 1000 ∧ xs.length ≤ 1000 ∧ Q (.tup (List.replicate k.toNat xs).flatten) G) := ⟨_, op_repT, fun x y H Q dx dy G QD hR px py ⟨xs, k, e1, e2, h0, h1, h2, h3, q⟩ hq => by
  subst e1; subst e2
  cases py
  cases px with
  | @tup a vs _ f r => exact ⟨a, k, vs, rfl, rfl, f.sq, fun e => h0 (by subst e; cases r; rfl), h1, h2, by rw [← r.length]; exact h3, fun p hp => hq.tup hR hp (r.rep _) q⟩⟩
theorem OpD.imp {X : Cx} {f : Value → Value → Sem Value} {r r' : D → D → HH → QD → Prop} (h : OpD X f r) (i : ∀ x y G Q, r' x y G Q → r x y G Q) : OpD X f r' := by
  obtain ⟨R, h1, h2⟩ := h
  exact ⟨R, h1, fun x y H Q dx dy G QD hR px py q hq => h2 x y H Q dx dy G QD hR px py (i _ _ _ _ q) hq⟩
theorem oMulT {X : Cx} : OpD X (binaryOp .Mult) mRepT := (oMulT1.or oMulT2).imp fun x y G Q ⟨xs, k, e1, e2, h0, h1, h2, h3, q⟩ => by
  by_cases hk : k = 1
  · subst hk
    exact .inl ⟨xs, e1, e2, by simpa using q⟩
  · exact .inr ⟨xs, k, e1, e2, h0, by omega, h2, h3, q⟩
def mAny : D → D → HH → QD → Prop := fun x y G Q => oI CMulX (fun i j => .int (i * j)) x y G Q ∨ mRep x y G Q ∨ mRepT x y G Q
theorem oMul : OpD X (binaryOp .Mult) mAny := oMulI.or (oMulL.or oMulT)
abbrev aSub := oI (fun _ _ => True) fun i j => .int (i - j)
abbrev aDiv := oI CDivW fun i j => .int (i / j)
abbrev aMod := oI (fun _ j => 0 < j) fun i j => .int (i % j)
abbrev aPow := oI CPow fun i j => .int (i ^ j.toNat)
abbrev aShl := oI CShl fun i j => .int (i * 2 ^ j.toNat)
abbrev aAnd := oI (fun _ _ => True) fun i j => .int (Builtin.bitAnd i j)
abbrev cLtI := oI (fun _ _ => True) fun i j => .bl (decide (i < j))
abbrev cLeI := oI (fun _ _ => True) fun i j => .bl (decide (i ≤ j))
abbrev cGtI := oI (fun _ _ => True) fun i j => .bl (decide (j < i))
abbrev cGeI := oI (fun _ _ => True) fun i j => .bl (decide (j ≤ i))
abbrev uNeg := uI fun i => .int (-i)
end DL

namespace DL
open PySem PySem.Spec PyProof.Rows L2
open PySem.W (Frag)
variable {X : Cx} {W : WX} {a b c o : Expr} {es : List Expr}

/-! ### name = [..] on one line -/
theorem lc_lift {K : Frag} {W : WX} {σ : L2.St} {H : Hp} {Q : VK} {wi : TID} {tt : TTD} {te : TED} {fr : Bool} {g : Tgt} {vs : List Nat} (hsl : ∀ i ∈ g.slots, i ∈ vs) (h : lft K W (dLc fr wi g tt te vs) σ H Q) : tLc (lftI K W wi) (g.v K) (lftT K W0 tt) (lft K W0 te) vs σ H Q := by
  obtain ⟨σD, G, QD, E, hR, hS, q, hq, hE⟩ := h
  refine ⟨σD, G, _, E, hR, hS, q, fun J H1 items okk G1 s1 r1 itr z => ?_, hE⟩
  intro p hp
  obtain ⟨Iv, i0, iok, istep, iend⟩ := z p (r1.free hp)
  have sN := Stp.newM (G := G1) (o := .lst []) (od := .lst []) hp
  have rN := r1.newM (o := .lst []) (od := .lst []) hp ⟨[], upd_same, .nil⟩
  refine ⟨fun i m H' => m = items.length - i ∧ i ≤ items.length ∧ ∃ G', Stp H1 G1 H' G' ∧ RelH K H' G' ∧ Iv (items.take i) G', ⟨items.length, by simp, Nat.zero_le _, gput G1 p (.lst []), sN, rN, by simpa using i0⟩, ?_⟩
  rintro i m H' ⟨rfl, hi, G', s', r', iv⟩
  obtain ⟨j1, j2⟩ := itr i H' G' s' r' (iok _ _ iv)
  by_cases hlt : i < items.length
  · obtain ⟨d, hd⟩ : ∃ d, items[i]? = some d := ⟨items[i], List.getElem?_eq_getElem hlt⟩
    obtain ⟨jgo, jy⟩ := j1 d hd
    refine .inr ⟨jgo, fun H'' => ∃ G'', Stp H1 G1 H'' G'' ∧ RelH K H'' G'' ∧ Iv (items.take (i + 1)) G'', fun H'' z => ⟨items.length - (i + 1), by omega, rfl, hlt, z⟩, fun x H3 y => ?_⟩
    obtain ⟨s3, r3, px⟩ := jy x H3 y
    obtain ⟨σ2, hput, stp⟩ := istep _ d _ G' (split_at hd) iv
    have s13 := s'.trans s3
    have hw := ((hS.mono s1).mono s13).wipe vs
    refine Tgt.ok g hsl px hw hput fun σ' h' a' => ⟨?_, ?_⟩
    · exact wipe_eq (by rw [← a'.1, wipe_length]) fun i hi => by rw [← a'.2 i hi, wipe_out hi]
    refine ⟨σ2, G', _, _, r3, h', stp, fun b H4 G4 s4 r4 z4 => ?_, exs0⟩
    cases b with
    | false =>
      dsimp only at z4 ⊢
      rw [if_neg Bool.false_ne_true] at z4 ⊢
      exact ⟨G4, s13.trans s4, r4, by rw [take_snoc hd]; exact z4⟩
    | true =>
      dsimp only at z4 ⊢
      rw [if_pos rfl] at z4 ⊢
      refine ⟨σ2, G4, _, _, r4, h'.mono s4, z4, fun w H5 dw G5 s5 r5 p5 ⟨acc, e5, l5, z5⟩ => ?_, exs0⟩
      obtain ⟨us, h, rr⟩ := r5 _ _ e5
      have s6 := Stp.put (H := H5) (o := .lst (us ++ [w])) (od := .lst (acc ++ [dw])) e5
      refine ⟨us, h, by rw [← rr.length]; exact l5, gput G5 p (.lst (acc ++ [dw])), ((s13.trans s4).trans s5).trans s6, r5.put e5 ⟨_, upd_same, (rr.mono s6).append (.cons (p5.mono s6) .nil)⟩, ?_⟩
      rw [take_snoc hd]; exact z5
  · have e : i = items.length := by omega
    subst e
    rw [List.take_length] at iv
    refine .inl ⟨j2 (Nat.le_refl _), ?_⟩
    obtain ⟨acc, ea, z⟩ := iend _ iv
    have s1' := s1.trans s'
    cases fr with
    | true =>
      rw [if_pos rfl] at z
      exact hq _ _ _ _ (s1'.trans Stp.del) r'.del (thaw_lst r' ea) z
    | false =>
      rw [if_neg Bool.false_ne_true] at z
      exact hq _ _ _ _ s1' r' (.ref p) z
theorem ds_setLc {i : Nat} {y : Str} {py : Pos} {elt tg iter : Expr} {ifs : List Expr} {scope : Scope} {own : List (Str × Nat)} {pos spos : Pos} {wi : TID} {tt : TTD} {te : TED} (hc : X.calm = true) (hN : X.N.Nodup) (hy : X.N[i]? = some y) (hyl : X.env.scope.names.lookup y = some .local)
    (hsw : swapsWith (.ListComp elt [⟨tg, iter, ifs, 0⟩] scope pos) (some (.Name y py)) spos.line X.env = pure true) (fr : Bool) (g : Tgt) (hi : DI X W tg iter wi) (ok : BlkOk X.N X.env.scope scope own)
    (hsl : ∀ i ∈ g.slots, i ∈ own.map (·.2))
    (hg : ∀ (s : Shared) (H : Hp) (C : Addr) (cl : List (Str × Addr)) (fp : List Addr), PG (X.blk s H scope (compEnvC scope cl C X.env) fp) tg (g.v X.K)) (ht : ∀ (s : Shared) (H : Hp) (C : Addr) (cl : List (Str × Addr)) (fp : List Addr), DTs (X.blk s H scope (compEnvC scope cl C X.env) fp) W0 ifs tt)
    (he : ∀ (s : Shared) (H : Hp) (C : Addr) (cl : List (Str × Addr)) (fp : List Addr), DE (X.blk s H scope (compEnvC scope cl C X.env) fp) W0 elt te) (hs : ∀ x, foldedSetIterable iter X.env x = pure x := by intro _; rfl) :
    DS X W (.Assign [.Name y py] (.ListComp elt [⟨tg, iter, ifs, 0⟩] scope pos) spos) (dAsg (dLc fr wi g tt te (own.map (·.2))) (gdName i)) :=
  PS.imp (ps_setLc (g := g.v X.K) (tt := lftT X.K W0 tt) (te := lft X.K W0 te) hc hN hy hyl hsw hi ok hg ht he hs) fun D σ H ⟨σD, G, DD, hR, hS, q, hE⟩ =>
    lc_lift (Q := fun x H1 => gName i x σ H1 D.nx) hsl ⟨σD, G, _, _, hR, hS, q, fun v H1 d G1 s r p z => hE.nx _ _ _ _ s r ((hS.mono s).set i p) z, hE.ex.at hS⟩

/-! ### steps -/
inductive GetAt : SD → Nat → D → Prop
  | z {d : D} {r : SD} : GetAt (some d :: r) 0 d
  | s {a : Option D} {r : SD} {i : Nat} {d : D} : GetAt r i d → GetAt (a :: r) (i + 1) d
theorem GetAt.at {σ i d} (h : GetAt σ i d) : σ[i]? = some (some d) := by
  induction h with
  | z => rfl
  | s _ ih => simpa using ih
inductive SetAt : SD → Nat → D → SD → Prop
  | z {a : Option D} {d : D} {r : SD} : SetAt (a :: r) 0 d (some d :: r)
  | s {a : Option D} {r r' : SD} {i : Nat} {d : D} : SetAt r i d r' → SetAt (a :: r) (i + 1) d (a :: r')
theorem SetAt.at {σ i d σ'} (h : SetAt σ i d σ') : σ.set i (some d) = σ' := by
  induction h with
  | z => rfl
  | s _ ih => simp [ih]
section
variable {σ σ' : SD} {G : HH} {Q : QD} {E : ED} {i j : Nat} {d d' : D} {ta tb : TED} {t u : TAD} {tA tB : TTD} {tS uS : TSD} {nx bk ct : SD → HH → Prop} {rt : QD} {ex : XD → SD → HH → Prop} {QT : Bool → HH → Prop} {QA : List D → HH → Prop} {N : SD → HH → Prop}
theorem st_var (h : GetAt σ i d) (q : Q d G) : dVar i σ G Q E := ⟨d, h.at, q⟩
theorem st_c (q : Q d G) : dC d σ G Q E := q
theorem st_op {rD} (h : ta σ G (fun x G1 => tb σ G1 (fun y G2 => rD x y G2 Q) E) E) : dOp rD ta tb σ G Q E := h
theorem st_un {rD} (h : ta σ G (fun x G1 => rD x G1 Q) E) : dUn rD ta σ G Q E := h
theorem st_nil (q : QA [] G) : dNil σ G QA E := q
theorem st_cons (h : ta σ G (fun d G1 => t σ G1 (fun ds G2 => QA (d :: ds) G2) E) E) : dCons ta t σ G QA E := h
theorem st_tup (h : t σ G (fun ds G1 => ds.length ≤ sizeLine ∧ Q (.tup ds) G1) E) : dTup t σ G Q E := h
theorem st_lst (h : t σ G (fun ds G1 => ds.length ≤ sizeLine ∧ Q (.lst ds) G1) E) : dLst t σ G Q E := h
theorem st_lstM (h : t σ G (fun ds G1 => ds.length ≤ sizeLine ∧ ∀ p, G1 p = none → Q (.ref p) (gput G1 p (.lst ds))) E) : dLstM t σ G Q E := h
theorem st_cb {rD : RCD} (h : t σ G (fun ds G1 => rD ds G1 Q) E) : dCB rD t σ G Q E := h
theorem st_call {sp : SpD} (h : t σ G (fun ds G1 => sp ds G1 Q E) E) : dCall sp t σ G Q E := h
theorem st_callK {n m perm} {sp : SpD} (h : t σ G (fun ds G1 => u σ G1 (fun zs G2 => ds.length = n ∧ zs.length = m ∧ sp (pick perm (ds ++ zs)) G2 Q E) E) E) : dCallK n m perm sp t u σ G Q E := h
theorem st_test (h : ta σ G (fun x G1 => ∃ k, x = .bl k ∧ QT k G1) E) : dTest ta σ G QT E := h
theorem st_bl {k} (q : QT k G) : ∃ k', D.bl k = .bl k' ∧ QT k' G := ⟨k, rfl, q⟩
theorem st_and (h : tA σ G (fun c G1 => if c = true then tB σ G1 QT E else QT false G1) E) : dAnd tA tB σ G QT E := h
theorem st_or (h : tA σ G (fun c G1 => if c = true then QT true G1 else tB σ G1 QT E) E) : dOr tA tB σ G QT E := h
theorem st_not (h : tA σ G (fun c G1 => QT (!c) G1) E) : dNot tA σ G QT E := h
theorem st_tru (h : ta σ G (fun x G1 => ∃ k, Tru G1 x k ∧ QT k G1) E) : dTru ta σ G QT E := h
theorem st_tru_bl {k} (q : QT k G) : ∃ k', Tru G (.bl k) k' ∧ QT k' G := ⟨k, .bl k, q⟩
theorem st_andV (h : ta σ G (fun x G1 => ∃ c, x = .bl c ∧ if c = true then tb σ G1 Q E else Q (.bl false) G1) E) : dAndV ta tb σ G Q E := h
theorem st_orV (h : ta σ G (fun x G1 => ∃ c, x = .bl c ∧ if c = true then Q (.bl true) G1 else tb σ G1 Q E) E) : dOrV ta tb σ G Q E := h
theorem st_notV (h : ta σ G (fun x G1 => ∃ c, x = .bl c ∧ Q (.bl (!c)) G1) E) : dNotV ta σ G Q E := h
theorem st_blq {k : Bool} {P : Bool → Prop} (q : P k) : ∃ c, D.bl k = .bl c ∧ P c := ⟨k, rfl, q⟩
theorem st_if (h : tA σ G (fun c G1 => if c = true then ta σ G1 Q E else tb σ G1 Q E) E) : dIf tA ta tb σ G Q E := h
theorem st_sl {tl th} (h : ta σ G (fun x G1 => tl σ G1 (fun lo G2 => th σ G2 (fun hi G3 => slD x lo hi G3 Q) E) E) E) : dSl ta tl th σ G Q E := h
theorem st_nopart {QO : Option Int → HH → Prop} (q : QO none G) : dNoPart σ G QO E := q
theorem st_part {QO : Option Int → HH → Prop} (h : ta σ G (fun x G1 => ∃ i, x = .int i ∧ QO (some i) G1) E) : dPart ta σ G QO E := h
theorem st_int {i : Int} {P : Int → Prop} (q : P i) : ∃ j, D.int i = .int j ∧ P j := ⟨i, rfl, q⟩
theorem st_isN {neg} (h : ta σ G (fun x G1 => ∃ k, (k = true → x = .non) ∧ (x = .non → k = true) ∧ Q (.bl (if neg then !k else k)) G1) E) : isN neg ta σ G Q E := h
-- statements
theorem st_seq (h : tS ⟨uS ⟨nx, rt, bk, ct, ex⟩, rt, bk, ct, ex⟩ σ G) : dSeq tS uS ⟨nx, rt, bk, ct, ex⟩ σ G := h
theorem st_next (h : nx σ G) : dNext ⟨nx, rt, bk, ct, ex⟩ σ G := h
theorem st_break (h : bk σ G) : dBreak ⟨nx, rt, bk, ct, ex⟩ σ G := h
theorem st_cont (h : ct σ G) : dCont ⟨nx, rt, bk, ct, ex⟩ σ G := h
theorem st_drop (h : ta σ G (fun _ G1 => nx σ G1) (fun x G1 => ex x σ G1)) : dDrop ta ⟨nx, rt, bk, ct, ex⟩ σ G := h
theorem st_ret (h : ta σ G rt (fun x G1 => ex x σ G1)) : dRet ta ⟨nx, rt, bk, ct, ex⟩ σ G := h
theorem st_retN (h : rt .non G) : dRetN ⟨nx, rt, bk, ct, ex⟩ σ G := h
theorem st_retF (h : ta σ G (fun d G1 => ∃ p xs, d = .ref p ∧ G1 p = some (.lst xs) ∧ rt (.lst xs) (gdel G1 p)) (fun x G1 => ex x σ G1)) : dRetF ta ⟨nx, rt, bk, ct, ex⟩ σ G := h
theorem st_ifS (h : tA σ G (fun b G1 => if b = true then tS ⟨nx, rt, bk, ct, ex⟩ σ G1 else uS ⟨nx, rt, bk, ct, ex⟩ σ G1) (fun x G1 => ex x σ G1)) : dIfS tA tS uS ⟨nx, rt, bk, ct, ex⟩ σ G := h
theorem st_asg {g : TGD} (h : ta σ G (fun x G1 => g x σ G1 nx) (fun x G1 => ex x σ G1)) : dAsg ta g ⟨nx, rt, bk, ct, ex⟩ σ G := h
theorem st_name (hs : SetAt σ i d σ') (h : N σ' G) : gdName i d σ G N := by unfold gdName; rw [hs.at]; exact h
theorem st_gtup {n ds} {tG : TGsD} (hl : ds.length = n) (h : tG ds σ G N) : gdTup n tG (.tup ds) σ G N := ⟨ds, rfl, hl, h⟩
theorem st_gnil (h : N σ G) : gdNil [] σ G N := ⟨rfl, h⟩
theorem st_gcons {tG : TGD} {uG : TGsD} {ds} (h : tG d σ G (fun σ' G' => uG ds σ' G' N)) : gdCons tG uG (d :: ds) σ G N := ⟨d, ds, rfl, h⟩
theorem st_gsub (h : ta σ G (fun x G1 => tb σ G1 (fun y G2 => ∃ p xs k j, x = .ref p ∧ y = .int k ∧ G2 p = some (.lst xs) ∧ ixN xs.length k = some j ∧ N σ (gput G2 p (.lst (xs.set j d)))) (fun _ _ => False)) (fun _ _ => False)) : gdSub ta tb d σ G N := h
theorem st_setat {p : Addr} {xs : List D} {k : Int} {jj : Nat} {P : HH → Prop} (hp : G p = some (.lst xs)) (hj : ixN xs.length k = some jj) (h : P (gput G p (.lst (xs.set jj d)))) : ∃ p' xs' k' j', D.ref p = .ref p' ∧ D.int k = .int k' ∧ G p' = some (.lst xs') ∧ ixN xs'.length k' = some j' ∧ P (gput G p' (.lst (xs'.set j' d))) := ⟨p, xs, k, jj, rfl, rfl, hp, hj, h⟩
theorem st_par (h : t σ G (fun ds G1 => ∃ d e, ds = [d, e] ∧ nx ((σ.set i (some d)).set j (some e)) G1) (fun x G1 => ex x σ G1)) : dPar i j t ⟨nx, rt, bk, ct, ex⟩ σ G := h
theorem st_par2 {e : D} {σ2 : SD} (h1 : SetAt σ i d σ') (h2 : SetAt σ' j e σ2) (h : N σ2 G) : ∃ d' e', [d, e] = [d', e'] ∧ N ((σ.set i (some d')).set j (some e')) G := ⟨d, e, rfl, by rw [h1.at, h2.at]; exact h⟩
theorem st_frz {p : Addr} {xs : List D} (hv : GetAt σ i (.ref p)) (hp : G p = some (.lst xs)) (hs : SetAt σ i (.lst xs) σ') (h : tS ⟨nx, rt, bk, ct, ex⟩ σ' (gdel G p)) : dFrz i tS ⟨nx, rt, bk, ct, ex⟩ σ G := ⟨p, xs, hv.at, hp, by rw [hs.at]; exact h⟩
-- what is walked
theorem st_iTup {R : List D → (HH → Prop) → HH → Prop} (h : ta σ G (fun x G1 => ∃ xs, x = .tup xs ∧ R xs okT G1) E) : iTupD ta σ G R E := h
theorem st_tupq {xs : List D} {P : List D → Prop} (q : P xs) : ∃ ys, D.tup xs = .tup ys ∧ P ys := ⟨xs, rfl, q⟩
theorem st_iLst {R : List D → (HH → Prop) → HH → Prop} (h : ta σ G (fun x G1 => ∃ xs, LsW G1 x xs ∧ R xs (okL x xs) G1) E) : iLstD ta σ G R E := h
theorem st_lsq {xs : List D} {P : List D → Prop} (q : P xs) : ∃ ys, LsW G (.lst xs) ys ∧ P ys := ⟨xs, .lst xs, q⟩
theorem st_wlsq {xs : List D} {P : List D → Prop} (q : P xs) : ∃ ys, LsW G (.wls xs) ys ∧ P ys := ⟨xs, .wls xs, q⟩
theorem st_rng1 {R : List D → (HH → Prop) → HH → Prop} (h : t σ G (fun ds G1 => ∃ j : Int, ds = [.int j] ∧ -(2 ^ 62) ≤ j ∧ j < 2 ^ 62 ∧ R (rgItems 0 j.toNat) okT G1) E) : iRngD1 t σ G R E := h
theorem st_rng1q {j : Int} {P : Int → Prop} (h1 : -(2 ^ 62) ≤ j) (h2 : j < 2 ^ 62) (h : P j) : ∃ j' : Int, [D.int j] = [.int j'] ∧ -(2 ^ 62) ≤ j' ∧ j' < 2 ^ 62 ∧ P j' := ⟨j, rfl, h1, h2, h⟩
theorem st_rng2 {R : List D → (HH → Prop) → HH → Prop} (h : t σ G (fun ds G1 => ∃ i j : Int, ds = [.int i, .int j] ∧ (-(2 ^ 62) ≤ i ∧ i < 2 ^ 62 ∧ -(2 ^ 62) ≤ j ∧ j < 2 ^ 62) ∧ R (rgItems i (j - i).toNat) okT G1) E) : iRngD2 t σ G R E := h
theorem st_rng2q {i j : Int} {P : Int → Int → Prop} (hh : -(2 ^ 62) ≤ i ∧ i < 2 ^ 62 ∧ -(2 ^ 62) ≤ j ∧ j < 2 ^ 62) (h : P i j) : ∃ i' j' : Int, [D.int i, D.int j] = [.int i', .int j'] ∧ (-(2 ^ 62) ≤ i' ∧ i' < 2 ^ 62 ∧ -(2 ^ 62) ≤ j' ∧ j' < 2 ^ 62) ∧ P i' j' := ⟨i, j, rfl, hh, h⟩
-- values
theorem st_oI {C : Int → Int → Prop} {g : Int → Int → D} {x y : Int} (hc : C x y) (h : Q (g x y) G) : oI C g (.int x) (.int y) G Q := ⟨x, y, rfl, rfl, hc, h⟩
theorem st_oI0 {g : Int → Int → D} {x y : Int} (h : Q (g x y) G) : oI (fun _ _ => True) g (.int x) (.int y) G Q := ⟨x, y, rfl, rfl, trivial, h⟩
theorem st_uI {g : Int → D} {x : Int} (h : Q (g x) G) : uI g (.int x) G Q := ⟨x, rfl, h⟩
theorem st_addI {x y : Int} (h : Q (.int (x + y)) G) : aAny (.int x) (.int y) G Q := .inl ⟨x, y, rfl, rfl, trivial, h⟩
theorem st_addS {x y : Str} (hl : x.length + y.length ≤ sizeLine) (h : Q (.str (x ++ y)) G) : aAny (.str x) (.str y) G Q := .inr (.inl ⟨x, y, rfl, rfl, hl, h⟩)
theorem st_addL {x y : D} {xs ys : List D} (h1 : Ls G x xs) (h2 : Ls G y ys) (hl : xs.length + ys.length ≤ sizeLine) (h : Q (.lst (xs ++ ys)) G) : aAny x y G Q := .inr (.inr (.inl ⟨xs, ys, h1, h2, hl, h⟩))
theorem st_addT {xs ys : List D} (hl : xs.length + ys.length ≤ sizeLine) (h : Q (.tup (xs ++ ys)) G) : aAny (.tup xs) (.tup ys) G Q := .inr (.inr (.inr ⟨xs, ys, rfl, rfl, hl, h⟩))
theorem st_mulI {x y : Int} (hc : CMulX x y) (h : Q (.int (x * y)) G) : mAny (.int x) (.int y) G Q := .inl ⟨x, y, rfl, rfl, hc, h⟩
theorem st_mulL {x : D} {xs : List D} {k : Int} (h1 : Ls G x xs) (hk : -(2 ^ 63) ≤ k ∧ k < 2 ^ 63) (hl : xs.length * k.toNat ≤ sizeLine) (h : Q (.lst (List.replicate k.toNat xs).flatten) G) : mAny x (.int k) G Q := .inr (.inl ⟨xs, k, h1, rfl, hk.1, hk.2, hl, h⟩)
theorem st_mulT {xs : List D} {k : Int} (h0 : xs ≠ []) (hk : 1 ≤ k ∧ k ≤ 1000) (hl : xs.length ≤ 1000) (h : Q (.tup (List.replicate k.toNat xs).flatten) G) : mAny (.tup xs) (.int k) G Q := .inr (.inr ⟨xs, k, rfl, rfl, h0, hk.1, hk.2, hl, h⟩)
theorem st_eqI {x y : Int} (h : Q (.bl (decide (x = y))) G) : eAny false (.int x) (.int y) G Q := .inl ⟨_, _, rfl, rfl, rfl, by
  have e : decide (V.int x = V.int y) = decide (x = y) := by simp
  show Q (.bl (if false = true then _ else _)) G
  rw [if_neg Bool.false_ne_true, e]; exact h⟩
theorem st_neI {x y : Int} (h : Q (.bl (!decide (x = y))) G) : eAny true (.int x) (.int y) G Q := .inl ⟨_, _, rfl, rfl, rfl, by
  have e : decide (V.int x = V.int y) = decide (x = y) := by simp
  show Q (.bl (if true = true then _ else _)) G
  rw [if_pos rfl, e]; exact h⟩
theorem st_eqS {x y : Str} (h : Q (.bl (decide (x = y))) G) : eAny false (.str x) (.str y) G Q := .inl ⟨_, _, rfl, rfl, rfl, by
  have e : decide (V.str x = V.str y) = decide (x = y) := by simp
  show Q (.bl (if false = true then _ else _)) G
  rw [if_neg Bool.false_ne_true, e]; exact h⟩
theorem st_neS {x y : Str} (h : Q (.bl (!decide (x = y))) G) : eAny true (.str x) (.str y) G Q := .inl ⟨_, _, rfl, rfl, rfl, by
  have e : decide (V.str x = V.str y) = decide (x = y) := by simp
  show Q (.bl (if true = true then _ else _)) G
  rw [if_pos rfl, e]; exact h⟩
theorem st_eqP {x y : D} {p q : PyData} (h1 : Py G x p) (h2 : Py G y q) (s1 : SeqAt.shaped p = true) (s2 : SeqAt.shaped q = true) (h : Q (.bl (PyData.eqv p q)) G) : eAny false x y G Q := .inr ⟨p, q, h1, h2, s1, s2, h⟩
theorem st_neP {x y : D} {p q : PyData} (h1 : Py G x p) (h2 : Py G y q) (s1 : SeqAt.shaped p = true) (s2 : SeqAt.shaped q = true) (h : Q (.bl (!PyData.eqv p q)) G) : eAny true x y G Q := .inr ⟨p, q, h1, h2, s1, s2, h⟩
theorem st_ix {x : D} {xs : List D} {k : Int} (hs : Sq G x xs) (hk : atI xs k = some d) (h : Q d G) : xAny x (.int k) G Q := .inl ⟨xs, k, d, hs, rfl, hk, h⟩
theorem st_slL {x : D} {xs : List D} {lo hi : Option Int} (hs : LsW G x xs) (h : Q (.lst (dcut xs lo hi)) G) : slD x lo hi G Q := .inl ⟨xs, hs, h⟩
theorem st_slT {xs : List D} {lo hi : Option Int} (h : Q (.tup (dcut xs lo hi)) G) : slD (.tup xs) lo hi G Q := .inr (.inl ⟨xs, rfl, h⟩)
theorem st_slS {x : Str} {lo hi : Option Int} (hl : x.length ≤ sizeLine) (h : Q (.str (cutS x lo hi)) G) : slD (.str x) lo hi G Q := .inr (.inr ⟨x, rfl, hl, h⟩)
-- built-in functions
theorem st_len {x : D} {xs : List D} (hs : Sq G x xs) (h : Q (.int xs.length) G) : kLen [x] G Q := .inl ⟨x, rfl, xs, hs, h⟩
theorem st_lenT {z : Str} (hl : z.length ≤ sizeLine) (h : Q (.int z.length) G) : kLen [.str z] G Q := .inr ⟨_, rfl, z, rfl, hl, h⟩
theorem st_abs {x : Int} (h : Q (.int (x.natAbs : Int)) G) : kAbs [.int x] G Q := ⟨_, rfl, x, rfl, h⟩
theorem st_max2 {x y : Int} (h : Q (.int (max x y)) G) : kMax2 [.int x, .int y] G Q := ⟨_, _, rfl, x, y, rfl, rfl, h⟩
theorem st_min2 {x y : Int} (h : Q (.int (min x y)) G) : kMin2 [.int x, .int y] G Q := ⟨_, _, rfl, x, y, rfl, rfl, h⟩
theorem st_toInt {x : Int} (h : Q (.int x) G) : kInt [.int x] G Q := ⟨_, rfl, .inl ⟨x, rfl, h⟩⟩
theorem st_toIntB {k : Bool} (h : Q (.int (if k then 1 else 0)) G) : kInt [.bl k] G Q := ⟨_, rfl, .inr ⟨k, rfl, h⟩⟩
theorem st_bool {k : Bool} (h : Q (.bl k) G) : kBool [.bl k] G Q := ⟨_, rfl, .inr ⟨k, rfl, h⟩⟩
theorem st_strI {x : Int} (hl : x.natAbs.log2 < 1920) (h : Q (.str (toString x)) G) : kStr [.int x] G Q := ⟨_, rfl, x, rfl, hl, h⟩
theorem st_tuple {x : D} {xs : List D} (hs : Sq G x xs) (h : Q (.tup xs) G) : kTuple [x] G Q := ⟨x, rfl, xs, hs, h⟩
theorem st_list {x : D} {xs : List D} (hs : Sq G x xs) (h : Q (.lst xs) G) : kList [x] G Q := ⟨x, rfl, xs, hs, h⟩
theorem st_listM {x : D} {xs : List D} (hs : Sq G x xs) (h : ∀ p, G p = none → Q (.ref p) (gput G p (.lst xs))) : kListM [x] G Q := ⟨x, rfl, xs, hs, h⟩
theorem st_repr {x : D} {p : PyData} (hp : Py G x p) (hs : Shw p) (h : Q (.str p.shown) G) : kRepr [x] G Q := ⟨x, rfl, p, hp, hs, h⟩
theorem st_sum {x : D} {ns : List Int} (hs : LsW G x (ns.map D.int)) (h : Q (.int ns.sum) G) : kSum [x] G Q := ⟨x, rfl, ns, hs, h⟩
theorem st_any {x : D} {ns : List Bool} (hs : LsW G x (ns.map D.bl)) (h : Q (.bl (ns.any id)) G) : kAny [x] G Q := ⟨x, rfl, ns, hs, h⟩
theorem st_all {x : D} {ns : List Bool} (hs : LsW G x (ns.map D.bl)) (h : Q (.bl (ns.all id)) G) : kAll [x] G Q := ⟨x, rfl, ns, hs, h⟩
-- methods
theorem st_bm {ty rD} (h : ta σ G (fun x G1 => ty x G1 ∧ t σ G1 (fun ds G2 => rD x ds G2 Q) E) E) : dBM ty rD ta t σ G Q E := h
theorem st_bm0 {ty rD} (h : ta σ G (fun x G1 => ty x G1 ∧ rD x [] G1 Q) E) : dBM0 ty rD ta σ G Q E := h
theorem st_append {p : Addr} {xs : List D} (hp : G p = some (.lst xs)) (hl : xs.length < sizeLine) (h : Q .non (gput G p (.lst (xs ++ [d])))) : mAppend (.ref p) [d] G Q := ⟨p, xs, d, rfl, rfl, hp, hl, h⟩
theorem st_pop {p : Addr} {xs : List D} (hp : G p = some (.lst (xs ++ [d]))) (h : Q d (gput G p (.lst xs))) : mPop (.ref p) [] G Q := ⟨p, xs, d, rfl, rfl, hp, h⟩
theorem st_extend {p : Addr} {xs ys : List D} {y : D} (hp : G p = some (.lst xs)) (hy : Ls G y ys) (hl : xs.length + ys.length ≤ sizeLine) (h : Q .non (gput G p (.lst (xs ++ ys)))) : mExtend (.ref p) [y] G Q := ⟨p, xs, y, ys, rfl, rfl, hp, hy, hl, h⟩
-- ifs
theorem st_iteT {A B : Prop} (h : A) : if true = true then A else B := h
theorem st_iteF {A B : Prop} (h : B) : if false = true then A else B := by rw [if_neg Bool.false_ne_true]; exact h
theorem st_ite {p A B : Prop} [Decidable p] (h1 : p → A) (h2 : ¬ p → B) : if decide p = true then A else B := by
  by_cases h : p
  · rw [decide_eq_true h]; exact h1 h
  · rw [decide_eq_false h, if_neg Bool.false_ne_true]; exact h2 h
theorem st_iteN {p A B : Prop} [Decidable p] (h1 : ¬ p → A) (h2 : p → B) : if (!decide p) = true then A else B := by
  by_cases h : p
  · rw [decide_eq_true h]; exact h2 h
  · rw [decide_eq_false h]; exact h1 h
theorem st_iteB {b : Bool} {A B : Prop} (h1 : b = true → A) (h2 : b = false → B) : if b = true then A else B := by
  cases b
  · rw [if_neg Bool.false_ne_true]; exact h2 rfl
  · exact h1 rfl
/-- a test that leaves nothing but its value: both parts of and, or are joined -/
theorem st_join {b k : Bool} {F : Bool → HH → Prop} (h : F (b && k) G) : if b = true then F k G else F false G := by
  cases b
  · rw [if_neg Bool.false_ne_true]; exact h
  · exact h
theorem st_joinO {b k : Bool} {F : Bool → HH → Prop} (h : F (b || k) G) : if b = true then F true G else F k G := by
  cases b
  · rw [if_neg Bool.false_ne_true]; exact h
  · exact h
end
end DL

namespace DL
open PySem PySem.Spec PyProof.Rows L2
open PySem.W (Frag)

/-! ### data that may be shown: bounds -/
mutual
/-- ints below 2 ^ b, texts of right signs, no dicts, depth at most n -/
def fine (b : Nat) : Nat → PyData → Prop
  | _, .none => True
  | _, .bool _ => True
  | _, .int i => i.natAbs < 2 ^ b
  | _, .str x => PyData.strOk x = true
  | n + 1, .list xs => fineAll b n xs
  | n + 1, .tuple xs => fineAll b n xs
  | 0, .list _ => False
  | 0, .tuple _ => False
  | _, .dict _ => False
def fineAll (b : Nat) : Nat → List PyData → Prop
  | _, [] => True
  | n, x :: xs => fine b n x ∧ fineAll b n xs
end
theorem int_len {b : Nat} {i : Int} (h0 : 0 < b) (h : i.natAbs < 2 ^ b) : (PyData.shown (.int i)).length ≤ b + 1 := by
  simp only [PyData.shown]
  show (Str.ofString (toString i)).length ≤ b + 1
  rw [PySem.ofString_length]
  cases i with
  | ofNat n =>
    have := nat_repr_length_le (n := n) (k := b) h0 h
    show (Nat.repr n).length ≤ b + 1
    omega
  | negSucc n =>
    have := nat_repr_length_le (n := n + 1) (k := b) h0 h
    have e1 : "-".length = 1 := rfl
    show ("-" ++ Nat.repr (n + 1)).length ≤ b + 1
    rw [String.length_append]
    omega
mutual
theorem fine_look {b : Nat} (h0 : 0 < b) (hb : b ≤ 1900) : ∀ (n : Nat) (d : PyData), fine b n d → d.showable = true ∧ d.canLay0 = true ∧ d.leavesShort (b + 10) = true ∧ d.depth ≤ n
  | n, .none, _ => by simp [PyData.showable, PyData.canLay0, PyData.leavesShort, PyData.depth]
  | n, .bool _, _ => by simp [PyData.showable, PyData.canLay0, PyData.leavesShort, PyData.depth]
  | n, .int i, h => by
    have h : i.natAbs < 2 ^ b := by cases n <;> exact h
    have h1 := int_len h0 h
    have h2 : i.natAbs.log2 < 1920 := by
      by_cases hz : i.natAbs = 0
      · rw [hz]; decide
      · have := (Nat.log2_lt hz).mpr h
        omega
    simp only [PyData.showable, PyData.canLay0, PyData.leavesShort, PyData.depth]
    exact ⟨decide_eq_true h2, trivial, decide_eq_true (by omega), Nat.zero_le _⟩
  | n, .str x, h => by
    have h : PyData.strOk x = true := by cases n <;> exact h
    simp only [PyData.showable, PyData.canLay0, PyData.leavesShort, PyData.depth]
    refine ⟨trivial, h, ?_, Nat.zero_le _⟩
    rw [List.all_eq_true]
    intro c hc
    unfold PyData.strOk at h
    rw [← Array.all_toList, List.all_eq_true] at h
    have := h c hc
    have : c < 0x110000 := by simpa using this
    exact decide_eq_true (Nat.lt_trans this (by decide))
  | 0, .list _, h => by simp [fine] at h
  | 0, .tuple _, h => by simp [fine] at h
  | n + 1, .list xs, h => by
    simp only [fine] at h
    obtain ⟨h1, h2, h3, h4⟩ := fineAll_look h0 hb n xs h
    simp only [PyData.showable, PyData.canLay0, PyData.leavesShort, PyData.depth]
    exact ⟨h1, h2, h3, by omega⟩
  | n + 1, .tuple xs, h => by
    simp only [fine] at h
    obtain ⟨h1, h2, h3, h4⟩ := fineAll_look h0 hb n xs h
    simp only [PyData.showable, PyData.canLay0, PyData.leavesShort, PyData.depth]
    exact ⟨h1, h2, h3, by omega⟩
  | n, .dict _, h => by cases n <;> simp [fine] at h
theorem fineAll_look {b : Nat} (h0 : 0 < b) (hb : b ≤ 1900) : ∀ (n : Nat) (ds : List PyData), fineAll b n ds → PyData.showableAll ds = true ∧ PyData.canLayAll0 ds = true ∧ PyData.leavesShortAll (b + 10) ds = true ∧ PyData.depthAll ds ≤ n
  | n, [], _ => by simp [PyData.showableAll, PyData.canLayAll0, PyData.leavesShortAll, PyData.depthAll]
  | n, d :: ds, h => by
    simp only [fineAll] at h
    obtain ⟨a1, a2, a3, a4⟩ := fine_look h0 hb n d h.1
    obtain ⟨b1, b2, b3, b4⟩ := fineAll_look h0 hb n ds h.2
    simp only [PyData.showableAll, PyData.canLayAll0, PyData.leavesShortAll, PyData.depthAll, a1, a2, a3, b1, b2, b3, Bool.and_self, true_and]
    omega
end
theorem shaped_of {b n : Nat} {d : PyData} (h0 : 0 < b) (hb : b ≤ 1900) (hn : n ≤ 64) (h : fine b n d) : SeqAt.shaped d = true := by
  obtain ⟨_, h2, _, h4⟩ := fine_look h0 hb n d h
  unfold SeqAt.shaped
  rw [h2]
  exact decide_eq_true (by omega)
theorem shw_of {b n : Nat} {d : PyData} (h0 : 0 < b) (hb : b ≤ 1900) (hn : n ≤ 64) (h : fine b n d) (hz : (b + 12) * d.bulk + b + 10 ≤ 16777216) : Shw d := by
  obtain ⟨h1, h2, h3, h4⟩ := fine_look h0 hb n d h
  refine ⟨h1, shaped_of h0 hb hn h, ?_⟩
  have := PyData.shown_le_bulk (b + 10) (by omega) d h3
  have e : sizeLine = 16777216 := sizeLine_eq
  rw [e]
  have e2 : (b + 10 + 2) * d.bulk = (b + 12) * d.bulk := by rw [show b + 10 + 2 = b + 12 by omega]
  omega

/-! ### lists of scalars as data -/
theorem pys_ints : ∀ ns : List Int, pys (ns.map D.int) = some (ns.map PyData.int)
  | [] => rfl
  | n :: ns => by simp [pys, D.py, pys_ints ns]
theorem pys_strs : ∀ ns : List Str, pys (ns.map D.str) = some (ns.map PyData.str)
  | [] => rfl
  | n :: ns => by simp [pys, D.py, pys_strs ns]
theorem py_lstI (ns : List Int) : (D.lst (ns.map D.int)).py = some (.list (ns.map PyData.int)) := by simp [D.py, pys_ints]
theorem py_tupI (ns : List Int) : (D.tup (ns.map D.int)).py = some (.tuple (ns.map PyData.int)) := by simp [D.py, pys_ints]
theorem canLay_ints : ∀ ns : List Int, PyData.canLayAll0 (ns.map PyData.int) = true
  | [] => rfl
  | n :: ns => by simp [PyData.canLayAll0, PyData.canLay0, canLay_ints ns]
theorem depth_ints : ∀ ns : List Int, PyData.depthAll (ns.map PyData.int) = 0
  | [] => rfl
  | n :: ns => by simp [PyData.depthAll, PyData.depth, depth_ints ns]
theorem shaped_lstI (ns : List Int) : SeqAt.shaped (.list (ns.map PyData.int)) = true := by
  unfold SeqAt.shaped
  simp [PyData.canLay0, PyData.depth, canLay_ints, depth_ints]
theorem shaped_tupI (ns : List Int) : SeqAt.shaped (.tuple (ns.map PyData.int)) = true := by
  unfold SeqAt.shaped
  simp [PyData.canLay0, PyData.depth, canLay_ints, depth_ints]
theorem eqv_lst_nil (ds : List PyData) : PyData.eqv (.list ds) (.list []) = ds.isEmpty := by
  cases ds <;> simp [PyData.eqv, PyData.eqvAll]
theorem eqv_tup_nil (ds : List PyData) : PyData.eqv (.tuple ds) (.tuple []) = ds.isEmpty := by
  cases ds <;> simp [PyData.eqv, PyData.eqvAll]
theorem hu65 {k : Nat} {A : Around} (hr : Room k A) : A.units + 65 < cLine := by have := hr.un; omega
theorem hu70 {k : Nat} {A : Around} (hr : Room k A) : A.units + 70 < cLine := by have := hr.un; omega
theorem hu64 {k : Nat} {A : Around} (hr : Room k A) : A.units + 64 < cLine := by have := hr.un; omega
/-! ### places -/
theorem atI_of {α : Type} {xs : List α} {k : Int} {n : Nat} {x : α} (e : k = (n : Int)) (h : xs[n]? = some x) : atI xs k = some x := by
  rw [e]; exact atI_nat h
theorem ixN_of {n : Nat} {k : Int} {j : Nat} (e : k = (j : Int)) (h : j < n) : ixN n k = some j := by
  unfold ixN
  rw [if_pos (by omega), if_pos (by omega)]
  congr 1
  omega
end DL

namespace DL
open PySem PySem.Spec PyProof.Rows L2
open PySem.W (Frag)
section
variable {σ σ' : SD} {G : HH} {Q : QD} {E : ED} {wi : TID} {g : TGD} {tb : TSD} {nx bk ct : SD → HH → Prop} {rt : QD} {ex : XD → SD → HH → Prop} {items : List D} {ok : HH → Prop} {tA : TTD}

/-! ### for, by an invariant -/
def ForG (items : List D) (ok : HH → Prop) (g : TGD) (tb : TSD) (nx : SD → HH → Prop) (rt : QD) (ex : XD → SD → HH → Prop) (σ : SD) (G : HH) : Prop := ∃ Iv : List D → SD → HH → Prop, Iv [] σ G ∧ (∀ pre σ G, Iv pre σ G → ok G) ∧
  (∀ pre x post σ G, items = pre ++ x :: post → Iv pre σ G → g x σ G (fun σ2 G2 => tb ⟨Iv (pre ++ [x]), rt, nx, Iv (pre ++ [x]), ex⟩ σ2 G2)) ∧ (∀ σ G, Iv items σ G → nx σ G)
theorem st_for (h : wi σ G (fun items ok G1 => ForG items ok g tb nx rt ex σ G1) (fun x G1 => ex x σ G1)) : dFor wi g tb ⟨nx, rt, bk, ct, ex⟩ σ G := h
/-- over items that are known, told by a list -/
theorem for_map {α : Type} {xs : List α} {c : α → D} (Iv : List α → SD → HH → Prop) (hok : ∀ pre σ G, Iv pre σ G → ok G) (h0 : Iv [] σ G)
    (hs : ∀ pre a post σ G, xs = pre ++ a :: post → Iv pre σ G → g (c a) σ G (fun σ2 G2 => tb ⟨Iv (pre ++ [a]), rt, nx, Iv (pre ++ [a]), ex⟩ σ2 G2)) (he : ∀ σ G, Iv xs σ G → nx σ G) : ForG (xs.map c) ok g tb nx rt ex σ G := by
  refine ⟨fun pre σ G => Iv (xs.take pre.length) σ G, by simpa using h0, fun pre σ G h => hok _ σ G h, fun pre x post σ G e iv => ?_, fun σ G iv => he σ G (by simpa using iv)⟩
  have hl : pre.length < xs.length := by
    have := congrArg List.length e
    simp at this
    omega
  have hx : xs[pre.length]? = some xs[pre.length] := List.getElem?_eq_getElem hl
  have e2 : x = c xs[pre.length] := by
    have : (xs.map c)[pre.length]? = some x := by rw [e]; simp
    rw [List.getElem?_map, hx] at this
    exact (Option.some.inj this).symm
  have hsp := split_at hx
  have tk := take_snoc hx
  subst e2
  have := hs _ _ _ σ G hsp iv
  have e3 : xs.take (pre ++ [c xs[pre.length]]).length = xs.take pre.length ++ [xs[pre.length]] := by
    rw [← tk]; simp
  have e4 : (fun σ G => Iv (xs.take (pre ++ [c xs[pre.length]]).length) σ G) = Iv (xs.take pre.length ++ [xs[pre.length]]) := by
    rw [e3]
  dsimp only
  have e5 : (fun σ G => Iv (xs.take (pre ++ [c xs[pre.length]]).length) σ G) = Iv (xs.take (pre ++ [c xs[pre.length]]).length) := rfl
  rw [e5] at e4
  rw [e4]
  exact this
/-- over a range -/
theorem for_rng {lo : Int} {n : Nat} (Iv : Nat → SD → HH → Prop) (h0 : Iv 0 σ G)
    (hs : ∀ (i : Nat) σ G, i < n → Iv i σ G → g (.int (lo + (i : Int))) σ G (fun σ2 G2 => tb ⟨Iv (i + 1), rt, nx, Iv (i + 1), ex⟩ σ2 G2)) (he : ∀ σ G, Iv n σ G → nx σ G) : ForG (rgItems lo n) okT g tb nx rt ex σ G := by
  refine for_map (xs := List.range n) (c := fun i : Nat => D.int (lo + (i : Int))) (fun pre σ G => Iv pre.length σ G) (fun _ _ _ _ => trivial) h0 (fun pre a post σ G e iv => ?_) (fun σ G iv => he σ G (by simpa using iv))
  have hl : pre.length < n := by
    have := congrArg List.length e
    simp at this
    omega
  have ea : a = pre.length := by
    have h1 : (List.range n)[pre.length]? = some a := by rw [e]; simp
    rw [List.getElem?_range hl] at h1
    exact (Option.some.inj h1).symm
  subst ea
  simpa using hs pre.length σ G hl iv
/-! ### while, by an invariant and a measure -/
theorem st_while (Iv : SD → HH → Prop) (μ : SD → HH → Nat) (h0 : Iv σ G)
    (hs : ∀ σ G, Iv σ G → tA σ G (fun b G1 => if b = true then tb ⟨fun σ' G' => Iv σ' G' ∧ μ σ' G' < μ σ G, rt, nx, fun σ' G' => Iv σ' G' ∧ μ σ' G' < μ σ G, ex⟩ σ G1 else nx σ G1) (fun x G1 => ex x σ G1)) : dWhile tA tb ⟨nx, rt, bk, ct, ex⟩ σ G := ⟨Iv, μ, h0, hs⟩
/-! ### comprehensions -/
def LcG (fr : Bool) (items : List D) (ok : HH → Prop) (g : Tgt) (tt : TTD) (te : TED) (vs : List Nat) (σ : SD) (G1 : HH) (Q : QD) : Prop := ∀ p, G1 p = none → ∃ Iv : List D → HH → Prop, Iv [] (gput G1 p (.lst [])) ∧ (∀ pre G, Iv pre G → ok G) ∧
  (∀ pre x post G, items = pre ++ x :: post → Iv pre G → ∃ σ2, g.put x (wipeD σ vs) = some σ2 ∧ tt σ2 G (fun b G3 => if b = true then te σ2 G3 (fun y G4 => ∃ acc, G4 p = some (.lst acc) ∧ acc.length < sizeLine ∧ Iv (pre ++ [x]) (gput G4 p (.lst (acc ++ [y])))) (fun _ _ => False) else Iv (pre ++ [x]) G3) (fun _ _ => False)) ∧
  (∀ G, Iv items G → ∃ acc, G p = some (.lst acc) ∧ (if fr = true then Q (.lst acc) (gdel G p) else Q (.ref p) G))
theorem st_lc {fr : Bool} {g : Tgt} {tt : TTD} {te : TED} {vs : List Nat} (h : wi σ G (fun items ok G1 => LcG fr items ok g tt te vs σ G1 Q) E) : dLc fr wi g tt te vs σ G Q E := h
theorem gdel_gput {G : HH} {p : Addr} {o : HOD} (h : G p = none) : gdel (gput G p o) p = G := by
  funext b
  by_cases hb : b = p
  · subst hb; rw [gdel_same, h]
  · rw [gdel_ne hb, gput_ne hb]
/-- what okL asks beside a new object -/
theorem ok_put {x : D} {xs : List D} {p : Addr} {o : HOD} (hp : G p = none) (h : LsW G x xs) : LsW (gput G p o) x xs := by
  cases h with
  | lst => exact .lst _
  | wls => exact .wls _
  | ref e => exact .ref (by rw [gput_ne (fun z => by rw [z, hp] at e; cases e)]; exact e)
/-- each element by itself, nothing changes: items told by xs, kept where k says, f what comes -/
theorem lc_pure {α : Type} {xs : List α} {c : α → D} {g : Tgt} {tt : TTD} {te : TED} {vs : List Nat} (k : α → Bool) (f : α → D) (hok : ∀ p acc, G p = none → ok (gput G p (.lst acc))) (hl : xs.length ≤ sizeLine)
    (hs : ∀ a, a ∈ xs → ∀ p acc, G p = none → ∃ σ2, g.put (c a) (wipeD σ vs) = some σ2 ∧ ∀ QT : Bool → HH → Prop, QT (k a) (gput G p (.lst acc)) → tt σ2 (gput G p (.lst acc)) QT (fun _ _ => False))
    (he : ∀ a, a ∈ xs → k a = true → ∀ p acc, G p = none → ∀ σ2, g.put (c a) (wipeD σ vs) = some σ2 → ∀ Q' : QD, Q' (f a) (gput G p (.lst acc)) → te σ2 (gput G p (.lst acc)) Q' (fun _ _ => False))
    (hq : Q (.lst ((xs.filter k).map f)) G) : LcG true (xs.map c) ok g tt te vs σ G Q := by
  intro p hp
  refine ⟨fun pre G' => G' = gput G p (.lst (((xs.take pre.length).filter k).map f)), by simp, fun pre G' h => by rw [h]; exact hok p _ hp, fun pre x post G' e iv => ?_, fun G' iv => ?_⟩
  · subst iv
    have hlt : pre.length < xs.length := by
      have := congrArg List.length e
      simp at this
      omega
    have hx : xs[pre.length]? = some xs[pre.length] := List.getElem?_eq_getElem hlt
    have e2 : x = c xs[pre.length] := by
      have : (xs.map c)[pre.length]? = some x := by rw [e]; simp
      rw [List.getElem?_map, hx] at this
      exact (Option.some.inj this).symm
    subst e2
    have hm : xs[pre.length] ∈ xs := List.getElem_mem hlt
    obtain ⟨σ2, h1, h2⟩ := hs _ hm p (((xs.take pre.length).filter k).map f) hp
    refine ⟨σ2, h1, h2 _ ?_⟩
    have tk : xs.take (pre ++ [c xs[pre.length]]).length = xs.take pre.length ++ [xs[pre.length]] := by
      have := take_snoc hx
      simpa using this
    cases ek : k xs[pre.length] with
    | true =>
      rw [if_pos rfl]
      refine he _ hm ek p _ hp σ2 h1 _ ⟨_, gput_same, ?_, ?_⟩
      · have a1 := List.length_filter_le k (xs.take pre.length)
        rw [List.length_map]
        rw [List.length_take] at a1
        omega
      · dsimp only
        rw [gput_gput, tk, List.filter_append, List.map_append]
        simp [ek]
    | false =>
      rw [if_neg Bool.false_ne_true]
      dsimp only
      rw [tk, List.filter_append, List.map_append]
      simp [ek]
  · subst iv
    refine ⟨_, gput_same, ?_⟩
    rw [if_pos rfl, gdel_gput hp]
    simpa using hq
/-- .. without a test -/
theorem lc_map {α : Type} {xs : List α} {c : α → D} {g : Tgt} {te : TED} {vs : List Nat} (f : α → D) (hok : ∀ p acc, G p = none → ok (gput G p (.lst acc))) (hl : xs.length ≤ sizeLine)
    (he : ∀ a, a ∈ xs → ∀ p acc, G p = none → ∃ σ2, g.put (c a) (wipeD σ vs) = some σ2 ∧ ∀ Q' : QD, Q' (f a) (gput G p (.lst acc)) → te σ2 (gput G p (.lst acc)) Q' (fun _ _ => False))
    (hq : Q (.lst (xs.map f)) G) : LcG true (xs.map c) ok g dYes te vs σ G Q := by
  refine lc_pure (fun _ => true) f hok hl (fun a ha p acc hp => ?_) (fun a ha _ p acc hp σ2 e2 Q' q => ?_) (by rw [List.filter_eq_self.mpr (by simp)]; exact hq)
  · obtain ⟨σ2, h1, _⟩ := he a ha p acc hp
    exact ⟨σ2, h1, fun QT q => q⟩
  · obtain ⟨σ3, h1, h2⟩ := he a ha p acc hp
    rw [e2] at h1
    cases h1
    exact h2 Q' q
/-- the second part of an and: what it comes to where it is asked -/
theorem st_andP {tB : TTD} {QT : Bool → HH → Prop} {c k : Bool} (h1 : c = true → ∀ QT' : Bool → HH → Prop, QT' k G → tB σ G QT' E) (h : QT (c && k) G) : if c = true then tB σ G QT E else QT false G := by
  cases c
  · rw [if_neg Bool.false_ne_true]; exact h
  · exact h1 rfl QT h
theorem st_orP {tB : TTD} {QT : Bool → HH → Prop} {c k : Bool} (h1 : c = false → ∀ QT' : Bool → HH → Prop, QT' k G → tB σ G QT' E) (h : QT (c || k) G) : if c = true then QT true G else tB σ G QT E := by
  cases c
  · rw [if_neg Bool.false_ne_true]; exact h1 rfl QT h
  · exact h
end
end DL

namespace DL
open PySem PySem.Spec PyProof.Rows L2
open PySem.W (Frag)
variable {X : Cx} {W : WX} {e f i o a b c value : Expr} {es : List Expr} {ta tb tc td ty tx tv to : TED} {t u : TAD} {tA tB' : TTD} {pos pos' apos cpos : Pos}

/-! ### dicts: keys are ints and texts, or tuples of them -/
section
variable {κ : Type} [DecidableEq κ]
def kget (kvs : List (κ × D)) (k : κ) : Option D := (kvs.find? fun kv => decide (kv.1 = k)).map (·.2)
def kput (kvs : List (κ × D)) (k : κ) (v : D) : List (κ × D) := if (kvs.any fun kv => decide (kv.1 = k)) = true then kvs.map (fun kv => if kv.1 = k then (kv.1, v) else kv) else kvs ++ [(k, v)]
/-- the same keys, values alike -/
def KRp (K : Frag) (H : Hp) (G : HH) (kvs : List (κ × D)) (xs : List (κ × V)) : Prop := kvs.map (·.1) = xs.map (·.1) ∧ Rps K H G (kvs.map (·.2)) (xs.map (·.2))
theorem KRp.nil {K H G} : KRp K H G ([] : List (κ × D)) [] := ⟨rfl, .nil⟩
theorem KRp.get {K H G} {k : κ} : ∀ {kvs : List (κ × D)} {xs : List (κ × V)}, KRp K H G kvs xs → (kget kvs k = none ∧ valV xs k = none) ∨ ∃ d v, kget kvs k = some d ∧ valV xs k = some v ∧ Rp K H G d v
  | [], [], _ => .inl ⟨rfl, rfl⟩
  | [], _ :: _, ⟨e, _⟩ => by simp at e
  | _ :: _, [], ⟨e, _⟩ => by simp at e
  | (k1, d) :: kvs, (k2, v) :: xs, ⟨e, r⟩ => by
    simp only [List.map_cons, List.cons.injEq] at e
    obtain ⟨e1, e2⟩ := e
    subst e1
    cases r with
    | cons r1 r2 =>
      by_cases hk : k1 = k
      · exact .inr ⟨d, v, by simp [kget, hk], by simp [valV, hk], r1⟩
      · have ih := KRp.get (k := k) (kvs := kvs) (xs := xs) ⟨e2, r2⟩
        have a1 : kget ((k1, d) :: kvs) k = kget kvs k := by simp [kget, List.find?_cons, hk]
        have a2 : valV ((k1, v) :: xs) k = valV xs k := by simp [valV, List.find?_cons, hk]
        rw [a1, a2]
        exact ih
theorem KRp.any {K H G} {k : κ} {kvs : List (κ × D)} {xs : List (κ × V)} (h : KRp K H G kvs xs) : (kvs.any fun kv => decide (kv.1 = k)) = xs.any fun kv => decide (kv.1 = k) := by
  have e := h.1
  have a1 : (kvs.any fun kv => decide (kv.1 = k)) = (kvs.map (·.1)).any fun z => decide (z = k) := by rw [List.any_map]; rfl
  have a2 : (xs.any fun kv => decide (kv.1 = k)) = (xs.map (·.1)).any fun z => decide (z = k) := by rw [List.any_map]; rfl
  rw [a1, a2, e]
theorem KRp.repl {K H G} {k : κ} {d : D} {v : V} (r : Rp K H G d v) : ∀ {kvs : List (κ × D)} {xs : List (κ × V)}, KRp K H G kvs xs → KRp K H G (kvs.map (fun kv => if kv.1 = k then (kv.1, d) else kv)) (xs.map (fun kv => if kv.1 = k then (kv.1, v) else kv))
  | [], [], _ => .nil
  | [], _ :: _, ⟨e, _⟩ => by simp at e
  | _ :: _, [], ⟨e, _⟩ => by simp at e
  | (k1, d1) :: kvs, (k2, v1) :: xs, ⟨e, q⟩ => by
    simp only [List.map_cons, List.cons.injEq] at e
    obtain ⟨e1, e2⟩ := e
    subst e1
    cases q with
    | cons r1 r2 =>
      obtain ⟨b1, b2⟩ := KRp.repl (k := k) r (kvs := kvs) (xs := xs) ⟨e2, r2⟩
      by_cases hk : k1 = k
      · simp only [List.map_cons, hk, if_true]
        exact ⟨by simp [b1], .cons r b2⟩
      · simp only [List.map_cons, hk, if_false]
        exact ⟨by simp [b1], .cons r1 b2⟩
theorem KRp.put {K H G} {k : κ} {d : D} {v : V} {kvs : List (κ × D)} {xs : List (κ × V)} (h : KRp K H G kvs xs) (r : Rp K H G d v) : KRp K H G (kput kvs k d) (putK xs k v) := by
  unfold kput putK
  rw [h.any]
  split
  · exact h.repl r
  · exact ⟨by simp [h.1], by rw [List.map_append, List.map_append]; exact h.2.append (.cons r .nil)⟩
theorem KRp.mono {K H G H' G'} {kvs : List (κ × D)} {xs : List (κ × V)} (s : Stp H G H' G') (h : KRp K H G kvs xs) : KRp K H' G' kvs xs := ⟨h.1, h.2.mono s⟩
theorem KRp.length {K H G} {kvs : List (κ × D)} {xs : List (κ × V)} (h : KRp K H G kvs xs) : kvs.length = xs.length := by
  have := congrArg List.length h.1
  simpa using this
theorem kget_cons {p : κ × D} {r : List (κ × D)} {j : κ} : kget (p :: r) j = if p.1 = j then some p.2 else kget r j := by
  by_cases h : p.1 = j <;> simp [kget, List.find?_cons, h]
theorem kget_any (k : κ) : ∀ kvs : List (κ × D), (kvs.any fun kv => decide (kv.1 = k)) = (kget kvs k).isSome
  | [] => rfl
  | p :: r => by
    rw [kget_cons, List.any_cons, kget_any k r]
    by_cases h : p.1 = k <;> simp [h]
theorem kget_map (k j : κ) (y : D) : ∀ kvs : List (κ × D), kget (kvs.map fun kv => if kv.1 = k then (kv.1, y) else kv) j = (kget kvs j).map fun x => if j = k then y else x
  | [] => rfl
  | p :: r => by
    have e : (if p.1 = k then (p.1, y) else p).1 = p.1 := by split <;> rfl
    rw [List.map_cons, kget_cons, kget_cons, kget_map k j y r, e]
    by_cases h : p.1 = j
    · subst h
      by_cases hk : p.1 = k <;> simp [hk]
    · simp [h]
theorem kget_snoc (k j : κ) (y : D) : ∀ kvs : List (κ × D), kget kvs k = none → kget (kvs ++ [(k, y)]) j = if j = k then some y else kget kvs j
  | [], _ => by
    rw [List.nil_append, kget_cons]
    by_cases h : k = j
    · subst h; simp
    · have h' : ¬ j = k := fun z => h z.symm
      simp [h, h']
  | p :: r, e => by
    rw [kget_cons] at e
    by_cases hp : p.1 = k
    · rw [if_pos hp] at e; cases e
    · rw [if_neg hp] at e
      rw [List.cons_append, kget_cons, kget_snoc k j y r e, kget_cons]
      by_cases h : p.1 = j
      · subst h
        simp [hp]
      · simp [h]
theorem kget_put (kvs : List (κ × D)) (k j : κ) (y : D) : kget (kput kvs k y) j = if j = k then some y else kget kvs j := by
  unfold kput
  rw [kget_any]
  cases e : kget kvs k with
  | none => simp only [Option.isSome_none, Bool.false_eq_true, if_false]; exact kget_snoc k j y kvs e
  | some v =>
    simp only [Option.isSome_some, if_true]
    rw [kget_map]
    by_cases h : j = k
    · subst h; rw [e]; simp
    · simp [h]
theorem length_kput (kvs : List (κ × D)) (k : κ) (v : D) : (kput kvs k v).length ≤ kvs.length + 1 := by
  unfold kput
  split <;> simp
theorem keys_kput (kvs : List (κ × D)) (k : κ) (v : D) : (kput kvs k v).map (·.1) = if (kget kvs k).isSome = true then kvs.map (·.1) else kvs.map (·.1) ++ [k] := by
  unfold kput
  rw [kget_any]
  split
  · rw [List.map_map]
    refine List.map_congr_left fun a _ => ?_
    dsimp only [Function.comp]
    split <;> rfl
  · simp
end
/-- the key that a scalar is -/
def dkey : D → Option Key
  | .int i => some (.inl i)
  | .str x => some (.inr x)
  | _ => none
theorem dkey_of {K H G d v k} (p : Rp K H G d v) (h : dkey d = some k) : v = kV k := by
  cases p <;> simp [dkey] at h <;> subst h <;> rfl
/-- what a dict at x says of the key y -/
def DAt (G : HH) (x y : D) (r : Option D) : Prop := ∃ p kvs k, x = .ref p ∧ G p = some (.dK kvs) ∧ dkey y = some k ∧ r = kget kvs k
theorem DAt.of {K H G x y r vx vy} (h : DAt G x y r) (hR : RelH K H G) (px : Rp K H G x vx) (py : Rp K H G y vy) : ∃ a o, vx = .ref a ∧ DGet H a vy o ∧ ((r = none ∧ o = none) ∨ ∃ d v, r = some d ∧ o = some v ∧ Rp K H G d v) := by
  obtain ⟨p, kvs, k, e1, e2, e3, e4⟩ := h
  subst e1; cases px
  obtain ⟨xs, h1, h2⟩ := hR _ _ e2
  rw [dkey_of py e3]
  exact ⟨p, _, rfl, DGet.k h1, by rw [e4]; exact KRp.get (k := k) h2⟩
def dDGet (td ty : TED) : TED := fun σ G Q E => td σ G (fun x G1 => ty σ G1 (fun y G2 => ∃ v, DAt G2 x y (some v) ∧ Q v G2) E) E
theorem de_dget (hu : X.A.units + 1 < cLine) (ho : DE X W o td) (hi : DE X W i ty) (hs : NoSl i := by exact fun _ _ => rfl) : DE X W (.Subscript o i pos) (dDGet td ty) :=
  PE.imp (pe_dget hu ho hi hs) fun σ H Q ⟨σD, G, QD, E, hR, hS, q, hq, hE⟩ => by
    refine ⟨σD, G, _, E, hR, hS, q, fun v1 H1 d1 G1 s1 r1 p1 q1 => ?_, hE⟩
    refine ⟨σD, G1, _, E, r1, hS.mono s1, q1, fun v2 H2 d2 G2 s2 r2 p2 ⟨v, hd, q2⟩ => ?_, hE.mono s1⟩
    obtain ⟨a, o, e1, g, z⟩ := hd.of r2 (p1.mono s2) p2
    rcases z with ⟨z, _⟩ | ⟨d, w, e2, e3, pw⟩
    · cases z
    · cases e2; subst e3
      exact ⟨a, w, e1, g, hq _ _ _ _ (s1.trans s2) r2 pw q2⟩
def dDIn (neg : Bool) (ty td : TED) : TED := fun σ G Q E => ty σ G (fun y G1 => td σ G1 (fun x G2 => ∃ r, DAt G2 x y r ∧ Q (.bl (if neg then !r.isSome else r.isSome)) G2) E) E
theorem dAt_some {K H G r} {o : Option V} (z : (r = none ∧ o = none) ∨ ∃ (d : D) (v : V), r = some d ∧ o = some v ∧ Rp K H G d v) : o.isSome = r.isSome := by
  rcases z with ⟨rfl, rfl⟩ | ⟨d, v, rfl, rfl, _⟩ <;> rfl
theorem pc_din' (hu : X.A.units + 1 < cLine) (hi : DE X W i ty) (ho : DE X W o td) : PC X .In i o (lft X.K W (dDIn false ty td)) := by
  have h := pc_din hu hi ho
  refine ⟨fun pins s σ H Q I ⟨σD, G, QD, E, hR, hS, q, hq, hE⟩ => h.run pins s σ H Q I ?_⟩
  refine ⟨σD, G, _, E, hR, hS, q, fun v1 H1 d1 G1 s1 r1 p1 q1 => ?_, hE⟩
  refine ⟨σD, G1, _, E, r1, hS.mono s1, q1, fun v2 H2 d2 G2 s2 r2 p2 ⟨r, hd, q2⟩ => ?_, hE.mono s1⟩
  obtain ⟨a, o, e1, g, z⟩ := hd.of r2 p2 (p1.mono s2)
  refine ⟨a, o, e1, g, ?_⟩
  rw [dAt_some z]
  exact hq _ _ _ _ (s1.trans s2) r2 (.bl _) q2
theorem pc_dnotin' (hu : X.A.units + 1 < cLine) (hi : DE X W i ty) (ho : DE X W o td) : PC X .NotIn i o (lft X.K W (dDIn true ty td)) := by
  have h := pc_dnotin hu hi ho
  refine ⟨fun pins s σ H Q I ⟨σD, G, QD, E, hR, hS, q, hq, hE⟩ => h.run pins s σ H Q I ?_⟩
  refine ⟨σD, G, _, E, hR, hS, q, fun v1 H1 d1 G1 s1 r1 p1 q1 => ?_, hE⟩
  refine ⟨σD, G1, _, E, r1, hS.mono s1, q1, fun v2 H2 d2 G2 s2 r2 p2 ⟨r, hd, q2⟩ => ?_, hE.mono s1⟩
  obtain ⟨a, o, e1, g, z⟩ := hd.of r2 p2 (p1.mono s2)
  refine ⟨a, o, e1, g, ?_⟩
  rw [dAt_some z]
  exact hq _ _ _ _ (s1.trans s2) r2 (.bl _) q2
theorem de_din (hu : X.A.units + 1 < cLine) (hi : DE X W i ty) (ho : DE X W o td) (h1 : behindInMarks .In o = false := by rfl) : DE X W (.Compare i [.In] [o] pos) (dDIn false ty td) := pe_cmp (pc_din' hu hi ho) h1
theorem de_dnotin (hu : X.A.units + 1 < cLine) (hi : DE X W i ty) (ho : DE X W o td) (h1 : behindInMarks .NotIn o = false := by rfl) : DE X W (.Compare i [.NotIn] [o] pos) (dDIn true ty td) := pe_cmp (pc_dnotin' hu hi ho) h1
theorem dt_din (hu : X.A.units + 1 < cLine) (hi : DE X W i ty) (ho : DE X W o td) (h1 : behindInMarks .In o = false := by rfl) : DT X W (.Compare i [.In] [o] pos) (dTest (dDIn false ty td)) := PT.imp (pt_cmp (pc_din' hu hi ho) h1) (lft_test fun σ H Q h => h)
theorem dt_dnotin (hu : X.A.units + 1 < cLine) (hi : DE X W i ty) (ho : DE X W o td) (h1 : behindInMarks .NotIn o = false := by rfl) : DT X W (.Compare i [.NotIn] [o] pos) (dTest (dDIn true ty td)) := PT.imp (pt_cmp (pc_dnotin' hu hi ho) h1) (lft_test fun σ H Q h => h)
/-- d.get(k), d.get(k, x) -/
def IsDD (G : HH) (x : D) : Prop := ∃ p kvs, x = .ref p ∧ G p = some (.dK kvs)
theorem IsDD.of {K H G x v} (h : IsDD G x) (hR : RelH K H G) (px : Rp K H G x v) : ∃ a, v = .ref a ∧ IsD H a := by
  obtain ⟨p, kvs, e1, e2⟩ := h
  subst e1; cases px
  obtain ⟨xs, h1, _⟩ := hR _ _ e2
  exact ⟨p, rfl, .inl ⟨xs, .inl h1⟩⟩
def dDGet1 (td ty : TED) : TED := fun σ G Q E => td σ G (fun x G1 => IsDD G1 x ∧ ty σ G1 (fun y G2 => ∃ r, DAt G2 x y r ∧ Q (r.getD .non) G2) E) E
def dDGet2 (td ty tx : TED) : TED := fun σ G Q E => td σ G (fun x G1 => IsDD G1 x ∧ ty σ G1 (fun y G2 => tx σ G2 (fun z G3 => ∃ r, DAt G3 x y r ∧ Q (r.getD z) G3) E) E) E
theorem dAt_getD {K H G r w z} {o : Option V} (h : (r = none ∧ o = none) ∨ ∃ (d : D) (v : V), r = some d ∧ o = some v ∧ Rp K H G d v) (pz : Rp K H G z w) : Rp K H G (r.getD z) (o.getD w) := by
  rcases h with ⟨rfl, rfl⟩ | ⟨d, v, rfl, rfl, p⟩
  · exact pz
  · exact p
theorem de_dget1 (hu : X.A.units + 1 < cLine) (ho : DE X W o td) (he : DE X W e ty) (m : M1 X o "get" apos e cpos) : DE X W (.Call (.Attribute o "get" apos) [e] [] cpos) (dDGet1 td ty) :=
  PE.imp (pe_dget1 hu ho he m) fun σ H Q ⟨σD, G, QD, E, hR, hS, q, hq, hE⟩ => by
    refine ⟨σD, G, _, E, hR, hS, q, fun v1 H1 d1 G1 s1 r1 p1 ⟨hi, q1⟩ => ?_, hE⟩
    obtain ⟨a, e1, hd⟩ := hi.of r1 p1
    refine ⟨a, e1, hd, σD, G1, _, E, r1, hS.mono s1, q1, fun v2 H2 d2 G2 s2 r2 p2 ⟨r, hd, q2⟩ => ?_, hE.mono s1⟩
    obtain ⟨a', o, e2, g, z⟩ := hd.of r2 (p1.mono s2) p2
    have : a' = a := by rw [e1] at e2; cases e2; rfl
    subst this
    exact ⟨o, g, hq _ _ _ _ (s1.trans s2) r2 (dAt_getD z .non) q2⟩
theorem de_dget2 (hu : X.A.units + 1 < cLine) (ho : DE X W o td) (he : DE X W e ty) (hf : DE X W f tx) (m : M2 X o "get" apos e f cpos) : DE X W (.Call (.Attribute o "get" apos) [e, f] [] cpos) (dDGet2 td ty tx) :=
  PE.imp (pe_dget2 hu ho he hf m) fun σ H Q ⟨σD, G, QD, E, hR, hS, q, hq, hE⟩ => by
    refine ⟨σD, G, _, E, hR, hS, q, fun v1 H1 d1 G1 s1 r1 p1 ⟨hi, q1⟩ => ?_, hE⟩
    obtain ⟨a, e1, hd⟩ := hi.of r1 p1
    refine ⟨a, e1, hd, σD, G1, _, E, r1, hS.mono s1, q1, fun v2 H2 d2 G2 s2 r2 p2 q2 => ?_, hE.mono s1⟩
    refine ⟨σD, G2, _, E, r2, hS.mono (s1.trans s2), q2, fun v3 H3 d3 G3 s3 r3 p3 ⟨r, hd, q3⟩ => ?_, hE.mono (s1.trans s2)⟩
    obtain ⟨a', o, e2, g, z⟩ := hd.of r3 (p1.mono (s2.trans s3)) (p2.mono s3)
    have : a' = a := by rw [e1] at e2; cases e2; rfl
    subst this
    exact ⟨o, g, hq _ _ _ _ ((s1.trans s2).trans s3) r3 (dAt_getD z p3) q3⟩
/-- {} -/
def dDNew : TED := fun _ G Q _ => ∀ p, G p = none → Q (.ref p) (gput G p (.dK []))
theorem de_dnew : DE X W (.Dict [] [] pos) dDNew := PE.imp pe_dnewK fun σ H Q ⟨σD, G, QD, E, hR, hS, q, hq, hE⟩ => fun p hp =>
  hq _ _ _ _ (Stp.newM (od := .dK []) hp) (hR.newM (od := .dK []) hp ⟨[], upd_same, rfl, .nil⟩) (.ref p) (q p (hR.free hp))
/-- d[k] = v -/
def dDPut (td ty tv : TED) : TSD := fun D σ G => tv σ G (fun v G1 => td σ G1 (fun x G2 => ty σ G2 (fun y G3 => ∃ p kvs k, x = .ref p ∧ G3 p = some (.dK kvs) ∧ dkey y = some k ∧ kvs.length < sizeLine ∧ D.nx σ (gput G3 p (.dK (kput kvs k v)))) (fun x G' => D.ex x σ G')) (fun x G' => D.ex x σ G')) (fun x G' => D.ex x σ G')
theorem ds_dput (hu : X.A.units + 1 < cLine) (ho : DE X W o td) (hi : DE X W i ty) (hv : DE X W value tv) (hs : swapsWith value (some (.Subscript o i pos')) pos.line X.env = pure false := by rfl) : DS X W (.Assign [.Subscript o i pos'] value pos) (dDPut td ty tv) :=
  PS.imp (ps_dput hu ho hi hv hs) fun D σ H ⟨σD, G, DD, hR, hS, q, he⟩ => by
    refine ⟨σD, G, _, _, hR, hS, q, fun v1 H1 d1 G1 s1 r1 p1 q1 => ?_, he.ex.at hS⟩
    refine ⟨σD, G1, _, _, r1, hS.mono s1, q1, fun v2 H2 d2 G2 s2 r2 p2 q2 => ?_, (he.ex.at hS).mono s1⟩
    refine ⟨σD, G2, _, _, r2, hS.mono (s1.trans s2), q2, fun v3 H3 d3 G3 s3 r3 p3 q3 => ?_, (he.ex.at hS).mono (s1.trans s2)⟩
    obtain ⟨p, kvs, k, e1, e2, e3, l, z⟩ := q3
    have p2' := p2.mono s3
    subst e1; cases p2'
    obtain ⟨xs, h1, h2⟩ := r3 _ _ e2
    have h2 : KRp X.K H3 G3 kvs xs := h2
    have s4 := Stp.put (H := H3) (o := .dK (putK xs k v1)) (od := .dK (kput kvs k d1)) e2
    refine ⟨p, _, rfl, ?_, he.nx _ _ _ _ (((s1.trans s2).trans s3).trans s4) (r3.put e2 ⟨_, upd_same, ?_⟩) (hS.mono (((s1.trans s2).trans s3).trans s4)) z⟩
    · rw [dkey_of p3 e3]
      exact DPut.k h1 (by rw [← h2.length]; exact l)
    · exact (h2.mono s4).put (p1.mono ((s2.trans s3).trans s4))
/-- a, b, c = x, y, z -/
def dPar3 (i j l : Nat) (t : TAD) : TSD := fun D σ G => t σ G (fun ds G1 => ∃ d e f, ds = [d, e, f] ∧ D.nx (((σ.set i (some d)).set j (some e)).set l (some f)) G1) (fun x G1 => D.ex x σ G1)
theorem rps3 {K H G d e f xs} (h : Rps K H G [d, e, f] xs) : ∃ v w u, xs = [v, w, u] ∧ Rp K H G d v ∧ Rp K H G e w ∧ Rp K H G f u := by
  cases h with | cons a r => obtain ⟨w, u, rfl, b, c⟩ := rps2 r; exact ⟨_, w, u, rfl, a, b, c⟩
theorem ds_par3 {i j l : Nat} {x y z : Str} {px py pz pt : Pos} {kt k2 pt2} (hc : X.calm = true) (hN : X.N.Nodup) (hi : X.N[i]? = some x) (hj : X.N[j]? = some y) (hl : X.N[l]? = some z) (hij : i ≠ j) (hil : i ≠ l) (hjl : j ≠ l)
    (hx : X.env.scope.names.lookup x = some .local) (hy : X.env.scope.names.lookup y = some .local) (hz : X.env.scope.names.lookup z = some .local) (ha : DA X W [a, b, c] t)
    (hw : swappedStores [.Tuple [.Name x px, .Name y py, .Name z pz] kt pt] (.Tuple [a, b, c] k2 pt2) X.env = pure (some [x, y, z]))
    (hs : swapsWithSole [.Tuple [.Name x px, .Name y py, .Name z pz] kt pt] (.Tuple [a, b, c] k2 pt2) pos.line X.env = pure false := by rfl) :
    DS X W (.Assign [.Tuple [.Name x px, .Name y py, .Name z pz] kt pt] (.Tuple [a, b, c] k2 pt2) pos) (dPar3 i j l t) := PS.imp (ps_par3 hc hN hi hj hl hij hil hjl hx hy hz ha hw hs) fun D σ H ⟨σD, G, DD, hR, hS, q, he⟩ =>
  ⟨σD, G, _, _, hR, hS, q, fun vs H1 ds G1 s r p ⟨d, e, f, e1, z⟩ => by
    subst e1
    obtain ⟨v, w, u, rfl, p1, p2, p3⟩ := rps3 p
    exact ⟨v, w, u, rfl, he.nx _ _ _ _ s r ((((hS.mono s).set i p1).set j p2).set l p3) z⟩, he.ex.at hS⟩
/-- xs + ys, a list that may change -/
def aLstM : D → D → HH → QD → Prop := fun x y G Q => ∃ xs ys, Ls G x xs ∧ Ls G y ys ∧ xs.length + ys.length ≤ sizeLine ∧ ∀ p, G p = none → Q (.ref p) (gput G p (.lst (xs ++ ys)))
theorem oAddLstM : OpD X (binaryOp .Add) aLstM := ⟨_, op_cat, fun x y H Q dx dy G QD hR px py ⟨xs, ys, e1, e2, l, q⟩ hq => by
  obtain ⟨a, vs, rfl, ha, ra⟩ := e1.of hR px
  obtain ⟨b, us, rfl, hb, rb⟩ := e2.of hR py
  exact ⟨_, _, _, _, rfl, rfl, ha, hb, by rw [← ra.length, ← rb.length]; exact l, fun p hp => hq _ _ _ _ (Stp.newM (od := .lst (xs ++ ys)) hp) (hR.newM (od := .lst (xs ++ ys)) hp ⟨vs ++ us, upd_same, (ra.append rb).mono (Stp.newM hp)⟩) (.ref p) (q p (hR.free hp))⟩⟩
/-- [x] * n, a list that may change -/
def mRepM : D → D → HH → QD → Prop := fun x y G Q => ∃ xs k, Ls G x xs ∧ y = .int k ∧ -(2 ^ 63) ≤ k ∧ k < 2 ^ 63 ∧ xs.length * k.toNat ≤ sizeLine ∧ ∀ p, G p = none → Q (.ref p) (gput G p (.lst (List.replicate k.toNat xs).flatten))
theorem oRepM : OpD X (binaryOp .Mult) mRepM := ⟨_, op_rep, fun x y H Q dx dy G QD hR px py ⟨xs, k, e1, e2, h1, h2, l, q⟩ hq => by
  obtain ⟨a, vs, rfl, ha, ra⟩ := e1.of hR px
  subst e2; cases py
  exact ⟨_, _, _, rfl, rfl, ha, h1, h2, by rw [← ra.length]; exact l, fun p hp => hq _ _ _ _ (Stp.newM (od := .lst (List.replicate k.toNat xs).flatten) hp) (hR.newM (od := .lst (List.replicate k.toNat xs).flatten) hp ⟨_, upd_same, (ra.rep _).mono (Stp.newM hp)⟩) (.ref p) (q p (hR.free hp))⟩⟩
/-! ### steps -/
section
variable {σ σ' : SD} {G : HH} {Q : QD} {E : ED} {d x y z : D} {ta tb : TED} {nx bk ct : SD → HH → Prop} {rt : QD} {ex : XD → SD → HH → Prop} {N : SD → HH → Prop} {p : Addr} {kvs : List (Key × D)} {k : Key} {v : D}
theorem st_addLM {xs ys : List D} (h1 : Ls G x xs) (h2 : Ls G y ys) (hl : xs.length + ys.length ≤ sizeLine) (h : ∀ p, G p = none → Q (.ref p) (gput G p (.lst (xs ++ ys)))) : aLstM x y G Q := ⟨xs, ys, h1, h2, hl, h⟩
theorem st_repM {xs : List D} {k : Int} (h1 : Ls G x xs) (hk : -(2 ^ 63) ≤ k ∧ k < 2 ^ 63) (hl : xs.length * k.toNat ≤ sizeLine) (h : ∀ p, G p = none → Q (.ref p) (gput G p (.lst (List.replicate k.toNat xs).flatten))) : mRepM x (.int k) G Q := ⟨xs, k, h1, rfl, hk.1, hk.2, hl, h⟩
theorem st_dget (h : td σ G (fun x G1 => ty σ G1 (fun y G2 => ∃ v, DAt G2 x y (some v) ∧ Q v G2) E) E) : dDGet td ty σ G Q E := h
theorem st_dgetq {P : D → Prop} (hp : G p = some (.dK kvs)) (hk : dkey y = some k) (hv : kget kvs k = some v) (h : P v) : ∃ v, DAt G (.ref p) y (some v) ∧ P v := ⟨v, ⟨p, kvs, k, rfl, hp, hk, hv.symm⟩, h⟩
theorem st_din {neg : Bool} (h : ty σ G (fun y G1 => td σ G1 (fun x G2 => ∃ r, DAt G2 x y r ∧ Q (.bl (if neg then !r.isSome else r.isSome)) G2) E) E) : dDIn neg ty td σ G Q E := h
theorem st_dinq {P : Option D → Prop} (hp : G p = some (.dK kvs)) (hk : dkey y = some k) (h : P (kget kvs k)) : ∃ r, DAt G (.ref p) y r ∧ P r := ⟨_, ⟨p, kvs, k, rfl, hp, hk, rfl⟩, h⟩
theorem st_dget1 (h : td σ G (fun x G1 => IsDD G1 x ∧ ty σ G1 (fun y G2 => ∃ r, DAt G2 x y r ∧ Q (r.getD .non) G2) E) E) : dDGet1 td ty σ G Q E := h
theorem st_dget2 (h : td σ G (fun x G1 => IsDD G1 x ∧ ty σ G1 (fun y G2 => tx σ G2 (fun z G3 => ∃ r, DAt G3 x y r ∧ Q (r.getD z) G3) E) E) E) : dDGet2 td ty tx σ G Q E := h
theorem st_isDD {P : Prop} (hp : G p = some (.dK kvs)) (h : P) : IsDD G (.ref p) ∧ P := ⟨⟨p, kvs, rfl, hp⟩, h⟩
theorem st_dnew (h : ∀ p, G p = none → Q (.ref p) (gput G p (.dK []))) : dDNew σ G Q E := h
theorem st_dput {tv : TED} (h : tv σ G (fun v G1 => td σ G1 (fun x G2 => ty σ G2 (fun y G3 => ∃ p kvs k, x = .ref p ∧ G3 p = some (.dK kvs) ∧ dkey y = some k ∧ kvs.length < sizeLine ∧ nx σ (gput G3 p (.dK (kput kvs k v)))) (fun x G' => ex x σ G')) (fun x G' => ex x σ G')) (fun x G' => ex x σ G')) : dDPut td ty tv ⟨nx, rt, bk, ct, ex⟩ σ G := h
theorem st_dputq {P : HH → Prop} (hp : G p = some (.dK kvs)) (hk : dkey y = some k) (hl : kvs.length < sizeLine) (h : P (gput G p (.dK (kput kvs k v)))) : ∃ p' kvs' k', D.ref p = .ref p' ∧ G p' = some (.dK kvs') ∧ dkey y = some k' ∧ kvs'.length < sizeLine ∧ P (gput G p' (.dK (kput kvs' k' v))) := ⟨p, kvs, k, rfl, hp, hk, hl, h⟩
theorem st_par3 {i j l : Nat} {t : TAD} (h : t σ G (fun ds G1 => ∃ d e f, ds = [d, e, f] ∧ nx (((σ.set i (some d)).set j (some e)).set l (some f)) G1) (fun x G1 => ex x σ G1)) : dPar3 i j l t ⟨nx, rt, bk, ct, ex⟩ σ G := h
theorem st_par3q {i j l : Nat} {e f : D} {σ1 σ2 σ3 : SD} (h1 : SetAt σ i d σ1) (h2 : SetAt σ1 j e σ2) (h3 : SetAt σ2 l f σ3) (h : N σ3 G) : ∃ d' e' f', [d, e, f] = [d', e', f'] ∧ N (((σ.set i (some d')).set j (some e')).set l (some f')) G := ⟨d, e, f, rfl, by rw [h1.at, h2.at, h3.at]; exact h⟩
end
end DL

namespace DL
open PySem PySem.Spec PyProof.Rows L2
open PySem.W (Frag)
/-- all but q as it was -/
def But (p : Addr) (G G' : HH) : Prop := ∀ b, b ≠ p → G' b = G b
theorem But.refl {p : Addr} {G : HH} : But p G G := fun _ _ => rfl
theorem But.trans {p : Addr} {G G1 G2 : HH} (a : But p G G1) (b : But p G1 G2) : But p G G2 := fun c h => (b c h).trans (a c h)
theorem But.put {p : Addr} {G G1 : HH} {o : HOD} (a : But p G G1) : But p G (gput G1 p o) := fun c h => (gput_ne h).trans (a c h)
section
variable {σ : SD} {G : HH} {Q : QD} {E : ED}
/-- a comprehension whose elements are drawn (at q), K draws each -/
theorem lc_dr {α : Type} {xs : List α} {c : α → D} {g : Tgt} {te : TED} {vs : List Nat} {ok : HH → Prop} {q : Addr} {N : Nat} (Dr : HH → Nat → Prop) (hat : ∀ {G G' M}, G' q = G q → Dr G M → Dr G' M) (hne : ∀ {G M}, Dr G M → G q ≠ none) (K : Nat) (P : D → Prop)
    (hd : Dr G N) (hok : ∀ G' : HH, (∀ b, b ≠ q → G b ≠ none → G' b = G b) → ok G') (hl : xs.length ≤ sizeLine)
    (he : ∀ a, a ∈ xs → ∀ (G' : HH) (M : Nat), Dr G' M → M + K ≤ N + K * xs.length → (∀ b, b ≠ q → G b ≠ none → G' b = G b) → ∃ σ2, g.put (c a) (wipeD σ vs) = some σ2 ∧
      ∀ Q' : QD, (∀ d G'', P d → Dr G'' (M + K) → But q G' G'' → Q' d G'') → te σ2 G' Q' (fun _ _ => False))
    (hq : ∀ ds G', ds.length = xs.length → (∀ d ∈ ds, P d) → Dr G' (N + K * xs.length) → But q G G' → Q (.lst ds) G') : LcG true (xs.map c) ok g dYes te vs σ G Q := by
  intro p hp
  have hqp : q ≠ p := fun z => hne hd (z ▸ hp)
  refine ⟨fun pre G' => ∃ acc, G' p = some (.lst acc) ∧ acc.length = pre.length ∧ (∀ d ∈ acc, P d) ∧ pre.length ≤ xs.length ∧ Dr G' (N + K * pre.length) ∧ ∀ b, b ≠ q → b ≠ p → G' b = G b, ⟨[], gput_same, rfl, by simp, Nat.zero_le _, hat (gput_ne hqp) hd, fun b _ h => gput_ne h⟩, ?_, ?_, ?_⟩
  · rintro pre G' ⟨acc, h1, h2, h3, h4, h5, h6⟩
    exact hok G' fun b hb hn => h6 b hb fun z => hn (z ▸ hp)
  · rintro pre x post G' e ⟨acc, h1, h2, h3, h4, h5, h6⟩
    have hlt : pre.length < xs.length := by
      have := congrArg List.length e
      simp at this
      omega
    have hx : xs[pre.length]? = some xs[pre.length] := List.getElem?_eq_getElem hlt
    have e2 : x = c xs[pre.length] := by
      have : (xs.map c)[pre.length]? = some x := by rw [e]; simp
      rw [List.getElem?_map, hx] at this
      exact (Option.some.inj this).symm
    subst e2
    have hK : K * (pre.length + 1) ≤ K * xs.length := Nat.mul_le_mul_left _ hlt
    rw [Nat.mul_add, Nat.mul_one] at hK
    obtain ⟨σ2, a1, a2⟩ := he _ (List.getElem_mem hlt) G' _ h5 (by omega) fun b hb hn => h6 b hb fun z => hn (z ▸ hp)
    refine ⟨σ2, a1, ?_⟩
    dsimp only [dYes]
    rw [if_pos rfl]
    refine a2 _ fun d G'' hP hD hB => ⟨acc, by rw [hB p hqp.symm]; exact h1, by omega, acc ++ [d], gput_same, by simp [h2], ?_, by simp; omega, ?_, fun b hb hb2 => by rw [gput_ne hb2, hB b hb, h6 b hb hb2]⟩
    · intro z hz
      rcases List.mem_append.mp hz with hz | hz
      · exact h3 z hz
      · rw [List.mem_singleton.mp hz]; exact hP
    · refine hat (gput_ne hqp) ?_
      rw [List.length_append, List.length_singleton, Nat.mul_add, Nat.mul_one, ← Nat.add_assoc]
      exact hD
  · rintro G' ⟨acc, h1, h2, h3, h4, h5, h6⟩
    rw [List.length_map] at h2 h5
    refine ⟨acc, h1, ?_⟩
    rw [if_pos rfl]
    refine hq acc _ h2 h3 (hat (gdel_ne hqp) h5) fun b hb => ?_
    by_cases hb2 : b = p
    · subst hb2; rw [gdel_same, hp]
    · rw [gdel_ne hb2]; exact h6 b hb hb2
end
section
variable {σ : SD} {G : HH} {g : TGD} {tb : TSD} {nx : SD → HH → Prop} {rt : QD} {ex : XD → SD → HH → Prop}
theorem for_rng0 {n : Nat} (Iv : Nat → SD → HH → Prop) (h0 : Iv 0 σ G)
    (hs : ∀ (i : Nat) σ G, i < n → Iv i σ G → g (.int (i : Int)) σ G (fun σ2 G2 => tb ⟨Iv (i + 1), rt, nx, Iv (i + 1), ex⟩ σ2 G2)) (he : ∀ σ G, Iv n σ G → nx σ G) : ForG (rgItems 0 n) okT g tb nx rt ex σ G :=
  for_rng Iv h0 (fun i σ G hi iv => by rw [Int.zero_add]; exact hs i σ G hi iv) he
end
section
variable {G : HH} {p : Addr} {P : Prop} {xs : List D}
theorem st_tru_blq {k : Bool} {P : Bool → Prop} (q : P k) : ∃ k', Tru G (.bl k) k' ∧ P k' := ⟨k, .bl k, q⟩
theorem st_tyL (hp : G p = some (.lst xs)) (h : P) : tyL (.ref p) G ∧ P := ⟨⟨p, xs, rfl, hp⟩, h⟩
end
theorem least (P : Nat → Prop) : ∀ m, P m → ∃ k, P k ∧ ∀ j, P j → k ≤ j := by
  intro m
  induction m using Nat.strongRecOn with
  | _ m ih =>
    intro h
    by_cases hk : ∃ k, k < m ∧ P k
    · obtain ⟨k, h1, h2⟩ := hk
      exact ih k h1 h2
    · exact ⟨m, h, fun j hj => Nat.le_of_not_lt fun z => hk ⟨j, z, hj⟩⟩
section
variable {σ : SD} {G : HH} {tb : TSD} {tA : TTD} {nx bk ct : SD → HH → Prop} {rt : QD} {ex : XD → SD → HH → Prop}
/-- the least measure at which an invariant holds -/
noncomputable def lst (Iv : Nat → SD → HH → Prop) (σ : SD) (G : HH) (h : ∃ m, Iv m σ G) : Nat := Classical.choose (least (fun m => Iv m σ G) (Classical.choose h) (Classical.choose_spec h))
theorem lst_ok (Iv : Nat → SD → HH → Prop) (σ : SD) (G : HH) (h : ∃ m, Iv m σ G) : Iv (lst Iv σ G h) σ G ∧ ∀ j, Iv j σ G → lst Iv σ G h ≤ j := Classical.choose_spec (least (fun m => Iv m σ G) (Classical.choose h) (Classical.choose_spec h))
open Classical in
/-- while, by an invariant that has its own measure -/
theorem st_whileN (Iv : Nat → SD → HH → Prop) (m0 : Nat) (h0 : Iv m0 σ G)
    (hs : ∀ (m : Nat) (σ : SD) (G : HH) (nx' : SD → HH → Prop), Iv m σ G → (∀ m' σ' G', m' < m → Iv m' σ' G' → nx' σ' G') → tA σ G (fun b G1 => if b = true then tb ⟨nx', rt, nx, nx', ex⟩ σ G1 else nx σ G1) (fun x G1 => ex x σ G1)) : dWhile tA tb ⟨nx, rt, bk, ct, ex⟩ σ G := by
  refine st_while (fun σ G => ∃ m, Iv m σ G) (fun σ G => if h : ∃ m, Iv m σ G then lst Iv σ G h else 0) ⟨m0, h0⟩ fun σ G hi => ?_
  refine hs _ σ G _ (lst_ok Iv σ G hi).1 fun m' σ' G' hm' hi' => ⟨⟨m', hi'⟩, ?_⟩
  rw [dif_pos ⟨m', hi'⟩, dif_pos hi]
  exact Nat.lt_of_le_of_lt ((lst_ok Iv σ' G' ⟨m', hi'⟩).2 m' hi') hm'
end
section
variable {σ : SD} {G : HH} {Q : QD} {ok : HH → Prop}
/-- each element by itself into a list that may change -/
theorem lc_mapM {α : Type} {xs : List α} {c : α → D} {g : Tgt} {te : TED} {vs : List Nat} (f : α → D) (hok : ∀ p acc, G p = none → ok (gput G p (.lst acc))) (hl : xs.length ≤ sizeLine)
    (he : ∀ a, a ∈ xs → ∀ p acc, G p = none → ∃ σ2, g.put (c a) (wipeD σ vs) = some σ2 ∧ ∀ Q' : QD, Q' (f a) (gput G p (.lst acc)) → te σ2 (gput G p (.lst acc)) Q' (fun _ _ => False))
    (hq : ∀ p, G p = none → Q (.ref p) (gput G p (.lst (xs.map f)))) : LcG false (xs.map c) ok g dYes te vs σ G Q := by
  intro p hp
  refine ⟨fun pre G' => G' = gput G p (.lst ((xs.take pre.length).map f)), by simp, fun pre G' h => by rw [h]; exact hok p _ hp, fun pre x post G' e iv => ?_, fun G' iv => ?_⟩
  · subst iv
    have hlt : pre.length < xs.length := by
      have := congrArg List.length e
      simp at this
      omega
    have hx : xs[pre.length]? = some xs[pre.length] := List.getElem?_eq_getElem hlt
    have e2 : x = c xs[pre.length] := by
      have : (xs.map c)[pre.length]? = some x := by rw [e]; simp
      rw [List.getElem?_map, hx] at this
      exact (Option.some.inj this).symm
    subst e2
    obtain ⟨σ2, h1, h2⟩ := he _ (List.getElem_mem hlt) p ((xs.take pre.length).map f) hp
    refine ⟨σ2, h1, ?_⟩
    dsimp only [dYes]
    rw [if_pos rfl]
    have tk : xs.take (pre ++ [c xs[pre.length]]).length = xs.take pre.length ++ [xs[pre.length]] := by
      have := take_snoc hx
      simpa using this
    refine h2 _ ⟨_, gput_same, ?_, ?_⟩
    · rw [List.length_map, List.length_take]
      omega
    · rw [gput_gput, tk, List.map_append]
      rfl
  · subst iv
    refine ⟨_, gput_same, ?_⟩
    rw [if_neg Bool.false_ne_true]
    simpa using hq p hp
end
theorem bulkAll_le {B : Nat} : ∀ {xs : List PyData}, (∀ x ∈ xs, x.bulk ≤ B) → PyData.bulkAll xs ≤ (B + 1) * xs.length
  | [], _ => by simp [PyData.bulkAll]
  | x :: xs, h => by
    have a1 := h x (by simp)
    have a2 := bulkAll_le (xs := xs) fun y hy => h y (by simp [hy])
    simp only [PyData.bulkAll, List.length_cons, Nat.mul_add]
    omega
theorem fineAll_of {b n : Nat} : ∀ {xs : List PyData}, (∀ x ∈ xs, fine b n x) → fineAll b n xs
  | [], _ => by simp [fineAll]
  | x :: xs, h => by
    simp only [fineAll]
    exact ⟨h x (by simp), fineAll_of fun y hy => h y (by simp [hy])⟩
theorem pys_map {α : Type} {f : α → D} {g : α → PyData} (h : ∀ a, (f a).py = some (g a)) : ∀ xs : List α, pys (xs.map f) = some (xs.map g)
  | [] => rfl
  | x :: xs => by simp [pys, h x, pys_map h xs]
theorem st_neSame {x : Str} {A B : Prop} (h : B) : if (!decide (x = x)) = true then A else B := by
  rw [decide_eq_true (rfl : x = x)]; exact h
theorem st_eqSame {x : Str} {A B : Prop} (h : A) : if decide (x = x) = true then A else B := by
  rw [decide_eq_true (rfl : x = x)]; exact h
end DL

namespace DL
open PySem PySem.Spec PyProof.Rows L2
open PySem.W (Frag)
variable {X : Cx} {W : WX} {e o a b c value : Expr} {es : List Expr} {ta tb tc to tv : TED} {t u : TAD} {tA tB' : TTD} {pos pos' apos cpos : Pos}

/-! ### instances of own classes -/
/-- the value of a field -/
def lk (f : Str) : List Str → List D → Option D
  | n :: ns, d :: ds => if n = f then some d else lk f ns ds
  | _, _ => none
/-- a field stored -/
def stF (f : Str) (y : D) : List Str → List D → List Str × List D
  | n :: ns, d :: ds => if n = f then (n :: ns, y :: ds) else ((n :: (stF f y ns ds).1), (d :: (stF f y ns ds).2))
  | _, _ => ([f], [y])
theorem lk_zip {K H G} {f : Str} : ∀ {ns : List Str} {ds : List D} {xs : List V}, Rps K H G ds xs → ns.length = xs.length → (lk f ns ds = none ∧ (ns.zip xs).lookup f = none) ∨ ∃ d v, lk f ns ds = some d ∧ (ns.zip xs).lookup f = some v ∧ Rp K H G d v
  | [], _, _, _, _ => .inl ⟨by cases ‹List D› <;> rfl, rfl⟩
  | n :: ns, _, _, .nil, h => by simp at h
  | n :: ns, d :: ds, v :: xs, .cons r rs, h => by
    have ih := lk_zip (f := f) (ns := ns) rs (by simpa using h)
    by_cases e : n = f
    · subst e
      refine .inr ⟨d, v, by simp [lk], ?_, r⟩
      simp [List.zip_cons_cons, List.lookup]
    · have a1 : lk f (n :: ns) (d :: ds) = lk f ns ds := by simp [lk, e]
      have hb : (f == n) = false := beq_eq_false_iff_ne.mpr fun z => e z.symm
      have a2 : ((n :: ns).zip (v :: xs)).lookup f = (ns.zip xs).lookup f := by simp only [List.zip_cons_cons, List.lookup, hb]
      rw [a1, a2]
      exact ih
theorem stF_zip {K H G} {f : Str} {y : D} {w : V} (ry : Rp K H G y w) : ∀ {ns : List Str} {ds : List D} {xs : List V}, Rps K H G ds xs → ns.length = xs.length → ∃ zs, putF f w (ns.zip xs) = (stF f y ns ds).1.zip zs ∧ (stF f y ns ds).1.length = zs.length ∧ Rps K H G (stF f y ns ds).2 zs
  | [], _, [], .nil, _ => ⟨[w], rfl, rfl, .cons ry .nil⟩
  | [], _, _ :: _, _, h => by simp at h
  | n :: ns, _, _, .nil, h => by simp at h
  | n :: ns, d :: ds, v :: xs, .cons r rs, h => by
    obtain ⟨zs, e1, e2, e3⟩ := stF_zip (f := f) ry (ns := ns) rs (by simpa using h)
    by_cases e : n = f
    · refine ⟨w :: xs, ?_, ?_, ?_⟩
      · simp [putF, stF, e]
      · simp [stF, e]; simpa using h
      · simp only [stF, e, if_true]; exact .cons ry rs
    · refine ⟨v :: zs, ?_, ?_, ?_⟩
      · simp only [List.zip_cons_cons, putF, stF, e, if_false, e1]
      · simp only [stF, e, if_false, List.length_cons, e2]
      · simp only [stF, e, if_false]; exact .cons r e3
inductive InsD (G : HH) : D → Str → List Str → List D → Prop
  | obj (c : Str) (ns : List Str) (ds : List D) : InsD G (.obj c ns ds) c ns ds
  | ref {p : Addr} {c : Str} {ns : List Str} {ds : List D} : G p = some (.ins c ns ds) → InsD G (.ref p) c ns ds
theorem InsD.of {K H G x c ns ds v} (h : InsD G x c ns ds) (hR : RelH K H G) (p : Rp K H G x v) : ∃ a C dx xs, v = .ref a ∧ gaddr K c = some C ∧ H a = some (.ins C dx (ns.zip xs)) ∧ ns.length = xs.length ∧ Rps K H G ds xs := by
  cases h with
  | obj => cases p with | obj h1 h2 h3 h4 h5 => exact ⟨_, _, _, _, rfl, h1, h2, h4, h5⟩
  | ref e => cases p with | ref a => obtain ⟨C, dx, xs, h1, h2, h3, h4⟩ := hR _ _ e; exact ⟨_, C, dx, xs, rfl, h1, h2, h3, h4⟩
/-- of the classes cs one may read and store the field f -/
def FldOk (K : Frag) (cs : List Str) (f : Str) : Prop := ∀ c ∈ cs, ∀ C, gaddr K c = some C → Cls K C ∧ NoAttr K C f
def dFld (cs : List Str) (f : Str) (ta : TED) : TED := fun σ G Q E => ta σ G (fun x G1 => ∃ c ns ds d, InsD G1 x c ns ds ∧ c ∈ cs ∧ lk f ns ds = some d ∧ Q d G1) E
theorem de_fld {cs : List Str} {f : Str} (hF : FldOk X.K cs f) (ha : DE X W a ta) (hb : attributeBase a f X.env (eval a X.env) = eval a X.env := by rfl) : DE X W (.Attribute a f pos) (dFld cs f ta) :=
  PE.imp (pe_fld ha hb) fun σ H Q ⟨σD, G, QD, E, hR, hS, q, hq, hE⟩ => by
    refine ⟨σD, G, _, E, hR, hS, q, fun v1 H1 d1 G1 s1 r1 p1 ⟨c, ns, ds, d, hi, hc, hl, q1⟩ => ?_, hE⟩
    obtain ⟨a, C, dx, xs, rfl, h1, h2, h3, h4⟩ := hi.of r1 p1
    rcases lk_zip (f := f) h4 h3 with ⟨z, _⟩ | ⟨d', v, e1, e2, p2⟩
    · rw [hl] at z; cases z
    · rw [hl] at e1; cases e1
      obtain ⟨k1, k2⟩ := hF c hc C h1
      exact ⟨a, C, dx, _, v, rfl, h2, k1, k2, e2, hq _ _ _ _ s1 r1 p2 q1⟩
def dSetF (cs : List Str) (f : Str) (to tv : TED) : TSD := fun D σ G => tv σ G (fun y G1 => to σ G1 (fun x G2 => ∃ p c ns ds, x = .ref p ∧ G2 p = some (.ins c ns ds) ∧ c ∈ cs ∧ ns.length < 1000 ∧ D.nx σ (gput G2 p (.ins c (stF f y ns ds).1 (stF f y ns ds).2))) (fun x G' => D.ex x σ G')) (fun x G' => D.ex x σ G')
theorem ds_setF {cs : List Str} {f : Str} (hF : FldOk X.K cs f) (ho : DE X W o to) (hv : DE X W value tv) (hs : swapsWith value (some (.Attribute o f pos')) pos.line X.env = pure false := by rfl) : DS X W (.Assign [.Attribute o f pos'] value pos) (dSetF cs f to tv) :=
  PS.imp (ps_fld ho hv hs) fun D σ H ⟨σD, G, DD, hR, hS, q, he⟩ => by
    refine ⟨σD, G, _, _, hR, hS, q, fun v1 H1 d1 G1 s1 r1 p1 q1 => ?_, he.ex.at hS⟩
    refine ⟨σD, G1, _, _, r1, hS.mono s1, q1, fun v2 H2 d2 G2 s2 r2 p2 ⟨p, c, ns, ds, e1, e2, hc, l, z⟩ => ?_, (he.ex.at hS).mono s1⟩
    subst e1; cases p2
    obtain ⟨C, dx, xs, h1, h2, h3, h4⟩ := r2 _ _ e2
    obtain ⟨k1, k2⟩ := hF c hc C h1
    have s3 := Stp.put (H := H2) (o := .ins C dx (putF f v1 (ns.zip xs))) (od := .ins c (stF f d1 ns ds).1 (stF f d1 ns ds).2) e2
    obtain ⟨zs, z1, z2, z3⟩ := stF_zip (f := f) (p1.mono (s2.trans s3)) (h4.mono s3) h3
    refine ⟨p, C, dx, _, rfl, h2, k1, k2, by rw [List.length_zip]; omega, he.nx _ _ _ _ ((s1.trans s2).trans s3) (r2.put e2 ⟨C, dx, zs, h1, by rw [upd_same, z1], z2, z3⟩) (hS.mono ((s1.trans s2).trans s3)) z⟩

/-! ### a def run in any surrounding -/
section
variable {k : Nat} {f C : Addr} {fd : FuncData} {ps : List Str} {sp : SpD}
theorem guards_make {A : Around} (h : A.guards = some []) (C : Addr) (us : List Value) (kw : List (Str × Value)) : (A.under (.builtin "type.__call__" ⟨.ref C :: us, kw⟩)).guards = some [] := by
  first | exact h | (simpa [Around.under, Code.envs, Code.isFrame, pushEnvs] using h)
theorem run_makeG {pins : List (Addr × Obj)} {σ : L2.St} {H : Hp} {s : Shared} {Q : VK} {us : List Value} {vs : List V} (M : Mk X.K C f) (F : FnG X.prog X.w X.K X.mg X.base k f fd ps sp) (hg : X.A.guards = some []) (hr : Room (k + 1) X.A) (hb : Binds X.K fd ps []) (tk : Takes X W)
    (I : Inv X pins σ H s) (r : Vals vs us)
    (h : ∀ x dx, H x = none → H dx = none → dx ≠ x → lsp X.K sp (.ref x :: vs) (upd (upd H dx (.own x)) x (.ins C dx [])) (fun v H2 => v = .non ∧ Q (.ref x) H2) (WE W σ)) :
    wpAny (model X.prog X.w) X.A (call (.ref C) us) (EP X pins σ Q) X.xe s := by
  have hq := h (s.heap.objs.size + 1) s.heap.objs.size (I.hok.fresh (Nat.le_succ _)) (I.hok.fresh (Nat.le_refl _)) (Nat.ne_of_lt (Nat.lt_succ_self _))
  have I2 := Inv.made (C := C) I
  have r2 : Vals (V.ref (s.heap.objs.size + 1) :: vs) (Value.ref (s.heap.objs.size + 1) :: us) := .cons rfl r
  have hl : (Value.ref (s.heap.objs.size + 1) :: us).length = ps.length := by rw [← r2.length]; exact F.llen hq
  have b := hb _ (Value.ref (s.heap.objs.size + 1) :: us) I2.kIn (by rw [List.append_nil]; exact hl)
  rw [List.append_nil] at b
  refine wpAny_call (make_map (f := f) I.kIn M.makes M.init (beq_iff_eq.mp M.fn) (codeAny_mono (F.run _ X.stack _ _ ⟨Value.ref (s.heap.objs.size + 1) :: us, []⟩ _ _ _ (WE W σ) (guards_make hg C us []) (hr.make C us []) (I2.env0.make C us []) b r2 hq) fun r s' hq' => ?_))
  cases r with
  | error e => exact passAt tk σ pins _ _ e s' I2 hq'
  | ok fl =>
    cases fl with
    | ret u =>
      obtain ⟨v, H', I3, rv, ev, q3⟩ := I2.after hq'
      subst ev
      exact ⟨rv, ⟨V.ref (s.heap.objs.size + 1), H', I3, rfl, q3⟩⟩
    | next => exact False.elim hq'
    | brk => exact False.elim hq'
    | cont => exact False.elim hq'
/-- C(..): a new instance, then __init__; fr: it is frozen behind -/
def dMake (fr : Bool) (c : Str) (sp : SpD) (t : TAD) : TED := fun σ G Q E => t σ G (fun ds G1 => ∀ p, G1 p = none → sp (.ref p :: ds) (gput G1 p (.ins c [] []))
  (fun v G2 => v = .non ∧ if fr = true then ∃ ns vs, G2 p = some (.ins c ns vs) ∧ Q (.obj c ns vs) (gdel G2 p) else Q (.ref p) G2) E) E
theorem upd_comm {H : Hp} {a b : Addr} {u v : HO} (h : a ≠ b) : upd (upd H a u) b v = upd (upd H b v) a u := by
  funext c
  by_cases h1 : c = a
  · subst h1
    rw [upd_ne h, upd_same, upd_same]
  · by_cases h2 : c = b
    · subst h2
      rw [upd_same, upd_ne h1, upd_same]
    · rw [upd_ne h2, upd_ne h1, upd_ne h1, upd_ne h2]
theorem thaw_ins {K H G c p ns ds} (hR : RelH K H G) (e : G p = some (.ins c ns ds)) : Rp K H (gdel G p) (.obj c ns ds) (.ref p) := by
  obtain ⟨C, dx, xs, h1, h2, h3, h4⟩ := hR _ _ e
  exact .obj h1 h2 gdel_same h3 (h4.mono Stp.del)
theorem lft_make {K : Frag} {c : Str} {C : Addr} {fr : Bool} {σ : L2.St} {H : Hp} {Q : VK} (hC : gaddr K c = some C) (h : lft K W (dMake fr c sp t) σ H Q) :
    lftA K W t σ H fun vs H1 => ∀ x dx, H1 x = none → H1 dx = none → dx ≠ x → lsp K sp (.ref x :: vs) (upd (upd H1 dx (.own x)) x (.ins C dx [])) (fun v H2 => v = .non ∧ Q (.ref x) H2) (WE W σ) := by
  obtain ⟨σD, G, QD, E, hR, hS, q, hq, hE⟩ := h
  refine ⟨σD, G, _, E, hR, hS, q, fun vs H1 ds G1 s1 r1 p1 q1 => ?_, hE⟩
  intro x dx hx hdx hne
  have s2 := Stp.new (G := G1) (o := .own x) hdx
  have r2 := r1.new (o := .own x) hdx
  have hx2 : (upd H1 dx (.own x)) x = none := by rw [upd_ne (fun z => hne z.symm)]; exact hx
  have s3 := Stp.newM (G := G1) (o := .ins C dx []) (od := .ins c [] []) hx2
  have r3 := r2.newM (o := .ins C dx []) (od := .ins c [] []) hx2 ⟨C, dx, [], hC, by rw [upd_same]; rfl, rfl, .nil⟩
  have s23 := s2.trans s3
  refine ⟨.ref x :: ds, gput G1 x (.ins c [] []), _, E, r3, .cons (.ref x) (p1.mono s23), q1 x (r1.free hx), fun v H4 d G4 s4 r4 p4 ⟨e4, z4⟩ => ?_, fun xd cls d H4 G4 s4 r4 p4 z4 => hE _ _ _ _ _ ((s1.trans s23).trans s4) r4 p4 z4⟩
  subst e4; cases p4
  refine ⟨rfl, ?_⟩
  cases fr with
  | true =>
    rw [if_pos rfl] at z4
    obtain ⟨ns, ws, e5, z5⟩ := z4
    exact hq _ _ _ _ ((s1.trans s23).trans (s4.trans Stp.del)) r4.del (thaw_ins r4 e5) z5
  | false =>
    rw [if_neg Bool.false_ne_true] at z4
    exact hq _ _ _ _ ((s1.trans s23).trans s4) r4 (.ref x) z4
theorem de_make {c x : Str} {p : Pos} (fr : Bool) (hC : gaddr X.K c = some C) (M : Mk X.K C f) (F : FnG X.prog X.w X.K X.mg X.base k f fd ps sp) (hgd : X.A.guards = some []) (hr : Room (k + 1) X.A) (hg : Gl X x) (hm : X.mg x = some (.ref C)) (hb : Binds X.K fd ps []) (tk : Takes X W)
    (ha : DA X W (e :: es) t) (hdb : (x == ("__debug__" : Str)) = false := by decide) (he : starEach (e :: es) X.env = (false, eval e X.env) :: starEach es X.env := by rfl) (hpl : (backTo pos (starEach es X.env)).any (·.1) = false := by rfl) :
    DE X W (.Call (.Name x p) (e :: es) [] pos) (dMake fr c sp t) := by
  have ha' : PA X (e :: es) (lftA X.K W t) := ha
  refine ⟨fun pins s σ H Q I h => ?_⟩
  refine wpAny_Call_Name_kw (ld_glob I hg hm ?_ hdb)
  exact PySem.W.callWith_K (h₀ := X.base) I.ok.mod.kin M.kp (thn (ha'.run pos pins s σ H _ I (lft_make hC h)) fun us s1 ⟨vs, H1, I1, r, q⟩ => ⟨I1.kIn, run_makeG M F hgd hr hb tk I1 r q⟩) he hpl
theorem de_make0 {c x : Str} {p : Pos} (fr : Bool) (hC : gaddr X.K c = some C) (M : Mk X.K C f) (F : FnG X.prog X.w X.K X.mg X.base k f fd ps sp) (hgd : X.A.guards = some []) (hr : Room (k + 1) X.A) (hg : Gl X x) (hm : X.mg x = some (.ref C)) (hb : Binds X.K fd ps []) (tk : Takes X W)
    (hdb : (x == ("__debug__" : Str)) = false := by decide) : DE X W (.Call (.Name x p) [] [] pos) (dMake fr c sp dNil) := by
  refine ⟨fun pins s σ H Q I h => ?_⟩
  refine wpAny_Call_Name_kw (ld_glob I hg hm ?_ hdb)
  have h2 := lft_make hC h
  obtain ⟨σD, G, QD, E, hR, hS, q, hq, hE⟩ := h2
  exact PySem.W.callWith_K0 I.kIn M.kp (run_makeG (us := []) (vs := []) M F hgd hr hb tk I .nil (hq [] H [] G Stp.refl hR .nil q))
/-- o.m(..) -/
def dMeth (c m : Str) (sp : SpD) (ta : TED) (t : TAD) : TED := fun σ G Q E => ta σ G (fun x G1 => ∃ ns ds, InsD G1 x c ns ds ∧ lk m ns ds = none ∧ t σ G1 (fun as G2 => sp (x :: as) G2 Q E) E) E
theorem de_meth {c m : Str} {pl : Sem Bool} (hC : gaddr X.K c = some C) (hcl : Cls X.K C) (hm : Meth X.K C m f) (F : FnG X.prog X.w X.K X.mg X.base k f fd ps sp) (hgd : X.A.guards = some []) (hr : Room k X.A) (hb : Binds X.K fd ps []) (tk : Takes X W) (ho : DE X W o to) (ha : DA X W (e :: es) t)
    (hst : starEach (e :: es) X.env = (false, eval e X.env) :: starEach es X.env := by rfl) (hpl : (backTo pos (starEach es X.env)).any (·.1) = false := by rfl)
    (ht : eval (.Call (.Attribute o m apos) (e :: es) [] pos) X.env = (do
      let ov ← eval o X.env
      standAt apos.atName
      let (f, first) ← holding [ov] (getMethod ov m pl)
      callWith pos f first (backTo pos (starEach (e :: es) X.env)) (backToKw pos (keywordEach [] X.env))) := by rfl) :
    DE X W (.Call (.Attribute o m apos) (e :: es) [] pos) (dMeth c m sp to t) := by
  have ha' : PA X (e :: es) (lftA X.K W t) := ha
  have ho' : PE X o (lft X.K W to) := ho
  refine ⟨fun pins s σ H Q I ⟨σD, G, QD, E, hR, hS, q, hq, hE⟩ => ?_⟩
  refine PySem.W.methodCall_KW (pl := pl) (thn (ho'.run pins s σ H (fun v H1 => ∃ d G1, Stp H G H1 G1 ∧ RelH X.K H1 G1 ∧ Rp X.K H1 G1 d v ∧ ∃ ns ds, InsD G1 d c ns ds ∧ lk m ns ds = none ∧ t σD G1 (fun as G2 => sp (d :: as) G2 QD E) E) I ⟨σD, G, _, E, hR, hS, q, fun v H1 d G1 s1 r1 p1 z => ⟨d, G1, s1, r1, p1, z⟩, hE⟩) fun u s1 ⟨x, H1, I1, rx, d, G1, s1', r1, p1, ns, ds, hi, hl, q1⟩ => ?_) ht
  obtain ⟨a, C', dx, xs, ex, h1, h2, h3, h4⟩ := hi.of r1 p1
  rw [hC] at h1; cases h1
  subst ex
  obtain rfl : u = Value.ref a := rx
  have hl' : (ns.zip xs).lookup m = none := by
    rcases lk_zip (f := m) h4 h3 with ⟨_, z⟩ | ⟨d', v, e1, _, _⟩
    · exact z
    · rw [hl] at e1; cases e1
  refine getmeth_ok I1 h2 hcl hm hl' ?_
  refine PySem.W.callWith_K (first := [.ref a]) (h₀ := X.base) I.ok.mod.kin hm.kp (thn (ha'.run pos pins s1 σ H1 (fun vs H2 => lsp X.K sp (.ref a :: vs) H2 Q (WE W σ)) I1 ⟨σD, G1, _, E, r1, hS.mono s1', q1, fun vs H2 as G2 s2 r2 p2 q2 => ?_, hE.mono s1'⟩) fun us s2 ⟨vs, H2, I2, r, q2⟩ => ⟨I2.kIn, ?_⟩) hst hpl
  · exact ⟨d :: as, G2, QD, E, r2, .cons (p1.mono s2) p2, q2, hq.mono (s1'.trans s2), fun xd cls d' H' G' s' r' p' z' => hE _ _ _ _ _ ((s1'.trans s2).trans s') r' p' z'⟩
  · exact run_call F hgd hr hb tk I2 (us := Value.ref a :: us) (vs := V.ref a :: vs) (.cons rfl r) q2
theorem de_meth0 {c m : Str} {pl : Sem Bool} (hC : gaddr X.K c = some C) (hcl : Cls X.K C) (hm : Meth X.K C m f) (F : FnG X.prog X.w X.K X.mg X.base k f fd ps sp) (hgd : X.A.guards = some []) (hr : Room k X.A) (hb : Binds X.K fd ps []) (tk : Takes X W) (ho : DE X W o to)
    (ht : eval (.Call (.Attribute o m apos) [] [] pos) X.env = (do
      let ov ← eval o X.env
      standAt apos.atName
      let (f, first) ← holding [ov] (getMethod ov m pl)
      callWith pos f first (backTo pos (starEach [] X.env)) (backToKw pos (keywordEach [] X.env))) := by rfl) :
    DE X W (.Call (.Attribute o m apos) [] [] pos) (dMeth c m sp to dNil) := by
  have ho' : PE X o (lft X.K W to) := ho
  refine ⟨fun pins s σ H Q I ⟨σD, G, QD, E, hR, hS, q, hq, hE⟩ => ?_⟩
  refine PySem.W.methodCall_KW (pl := pl) (thn (ho'.run pins s σ H (fun v H1 => ∃ d G1, Stp H G H1 G1 ∧ RelH X.K H1 G1 ∧ Rp X.K H1 G1 d v ∧ ∃ ns ds, InsD G1 d c ns ds ∧ lk m ns ds = none ∧ sp [d] G1 QD E) I ⟨σD, G, _, E, hR, hS, q, fun v H1 d G1 s1 r1 p1 z => ⟨d, G1, s1, r1, p1, z⟩, hE⟩) fun u s1 ⟨x, H1, I1, rx, d, G1, s1', r1, p1, ns, ds, hi, hl, q1⟩ => ?_) ht
  obtain ⟨a, C', dx, xs, ex, h1, h2, h3, h4⟩ := hi.of r1 p1
  rw [hC] at h1; cases h1
  subst ex
  obtain rfl : u = Value.ref a := rx
  have hl' : (ns.zip xs).lookup m = none := by
    rcases lk_zip (f := m) h4 h3 with ⟨_, z⟩ | ⟨d', v, e1, _, _⟩
    · exact z
    · rw [hl] at e1; cases e1
  refine getmeth_ok I1 h2 hcl hm hl' ?_
  exact PySem.W.callWith_K0 (first := [.ref a]) I1.kIn hm.kp (run_call F hgd hr hb tk I1 (us := [.ref a]) (vs := [.ref a]) (.cons rfl .nil) ⟨[d], G1, QD, E, r1, .cons p1 .nil, q1, hq.mono s1', fun xd cls d' H' G' s' r' p' z' => hE _ _ _ _ _ (s1'.trans s') r' p' z'⟩)
end
end DL

namespace DL
open PySem PySem.Spec PyProof.Rows L2
open PySem.W (Frag)
variable {X : Cx} {W : WX} {e o a b c value : Expr} {es : List Expr} {ta tb tc to tv : TED} {t u : TAD} {tA tB' : TTD} {pos pos' apos cpos : Pos}

theorem vref (a : Addr) : RelV (V.ref a) (Value.ref a) := rfl
/-! ### special methods that raise nothing -/
theorem fr_of {pins : List (Addr × Obj)} {σ : L2.St} {H : Hp} {s : Shared} (I : Inv X pins σ H s) : ∃ m, Fr X.base X.env.locals s.heap m := by
  obtain ⟨m, hm, _⟩ := I.loc
  exact ⟨m, hm, I.bk, Nat.le_trans I.ok.bsz I.ok.above⟩
theorem inst_of {pins : List (Addr × Obj)} {σ : L2.St} {H : Hp} {s : Shared} {a C dx : Addr} {fs : List (Str × V)} (I : Inv X pins σ H s) (h : H a = some (.ins C dx fs)) : ∃ ox od, PySem.W.InstAt s.heap a ox C od ∧ ox.data = .plain := by
  obtain ⟨mA, O, _⟩ := ins_get I.hok h
  obtain ⟨od, J, _⟩ := O.look
  exact ⟨_, _, J, rfl⟩
section
variable {k : Nat} {f C : Addr} {fd : FuncData} {ps : List Str} {sp : SpD}
theorem run_at {A' : Around} {pins : List (Addr × Obj)} {σ : L2.St} {H : Hp} {s : Shared} {Q : VK} {us : List Value} {vs : List V} (F : FnG X.prog X.w X.K X.mg X.base k f fd ps sp) (hg : A'.guards = some []) (hr : Room k A') (e0 : Env0 X.prog X.w X.K X.mg X.base A' X.stack s H) (hb : Binds X.K fd ps [])
    (I : Inv X pins σ H s) (r : Vals vs us) (h : lsp X.K sp vs H Q E0) : wpAny (model X.prog X.w) A' (call (.ref f) us) (EP X pins σ Q) X.xe s := by
  have hl : us.length = ps.length := by rw [← r.length]; exact F.llen h
  have b := hb s us I.kIn (by rw [List.append_nil]; exact hl)
  rw [List.append_nil] at b
  refine wpAny_call (codeAny_mono (F.run A' X.stack s H ⟨us, []⟩ us vs Q E0 hg hr e0 b r h) fun r s' hq => ?_)
  cases r with
  | error e => exact passL pins σ H s e s' I hq
  | ok fl =>
    cases fl with
    | ret u => exact I.after hq
    | next => exact False.elim hq
    | brk => exact False.elim hq
    | cont => exact False.elim hq
/-- an own promise, read at V: with nothing raised -/
theorem lsp0 {K : Frag} {H : Hp} {G : HH} {ds : List D} {vs : List V} {QD : QD} {Q : VK} (hR : RelH K H G) (hp : Rps K H G ds vs) (q : sp ds G QD (fun _ _ => False)) (hq : Ct K H G Q QD) : lsp K sp vs H Q E0 :=
  ⟨ds, G, QD, _, hR, hp, q, hq, fun _ _ _ _ _ _ _ _ z => z⟩
/-- y in o -/
def rInO (neg : Bool) (c : Str) (sp : SpD) : D → D → HH → QD → Prop := fun x y G Q => ∃ ns ds, InsD G y c ns ds ∧ sp [y, x] G (fun v G1 => ∃ b, v = .bl b ∧ Q (.bl (if neg then !b else b)) G1) (fun _ _ => False)
theorem guards_in1 {A : Around} (h : A.guards = some []) : A.in1.guards = some [] := h
theorem oInO {c : Str} (hC : gaddr X.K c = some C) (hm : Meth X.K C "__contains__" f) (F : FnG X.prog X.w X.K X.mg X.base k f fd ps sp) (hg : X.A.guards = some []) (hr : Room k X.A) (hb : Binds X.K fd ps []) : OpD X (compareOp .In) (rInO false c sp) :=
  ⟨fun x y H Q => ∃ a dx fs, y = .ref a ∧ H a = some (.ins C dx fs) ∧ lsp X.K sp [y, x] H (fun v H1 => ∃ b, v = .bl b ∧ Q (.bl b) H1) E0, fun pins s σ H x y v u Q I rx ry ⟨a, dx, fs, ey, ha, q⟩ => by
    subst ey
    obtain rfl : u = Value.ref a := ry
    obtain ⟨m, fr⟩ := fr_of I
    obtain ⟨ox, od, J, _⟩ := inst_of I ha
    refine PySem.W.in_K fr I.ok.mod.kin J hm.at_ hm.fn (wpAny_mono (run_at F hg hr I.env0 hb I (us := [.ref a, v]) (.cons (vref a) (.cons rx .nil)) q) (fun r s' hr' => ?_) fun _ _ z => z)
    obtain ⟨w, H', J', rw', b, ew, q'⟩ := hr'
    subst ew
    obtain rfl : r = Value.bool b := rw'
    exact wpAny_truthy_bool ⟨.bl b, H', J', rfl, q'⟩, fun x y H Q dx dy G QD hR px py ⟨ns, ds, hi, q⟩ hq => by
    obtain ⟨a, C', dx', xs, e1, h1, h2, h3, h4⟩ := hi.of hR py
    rw [hC] at h1; cases h1
    refine ⟨a, dx', _, e1, h2, lsp0 hR (.cons py (.cons px .nil)) q fun v H' d G' s' r' p' ⟨b, e, z⟩ => ?_⟩
    subst e; cases p'
    exact ⟨b, rfl, hq _ _ _ _ s' r' (.bl _) z⟩⟩
theorem oNotInO {c : Str} (hC : gaddr X.K c = some C) (hm : Meth X.K C "__contains__" f) (F : FnG X.prog X.w X.K X.mg X.base k f fd ps sp) (hg : X.A.guards = some []) (hr : Room k X.A) (hb : Binds X.K fd ps []) : OpD X (compareOp .NotIn) (rInO true c sp) :=
  ⟨fun x y H Q => ∃ a dx fs, y = .ref a ∧ H a = some (.ins C dx fs) ∧ lsp X.K sp [y, x] H (fun v H1 => ∃ b, v = .bl b ∧ Q (.bl (!b)) H1) E0, fun pins s σ H x y v u Q I rx ry ⟨a, dx, fs, ey, ha, q⟩ => by
    subst ey
    obtain rfl : u = Value.ref a := ry
    obtain ⟨m, fr⟩ := fr_of I
    obtain ⟨ox, od, J, _⟩ := inst_of I ha
    refine PySem.W.notIn_K fr I.ok.mod.kin J hm.at_ hm.fn (wpAny_mono (run_at F hg hr I.env0 hb I (us := [.ref a, v]) (.cons (vref a) (.cons rx .nil)) q) (fun r s' hr' => ?_) fun _ _ z => z)
    obtain ⟨w, H', J', rw', b, ew, q'⟩ := hr'
    subst ew
    obtain rfl : r = Value.bool b := rw'
    exact wpAny_truthy_bool ⟨.bl (!b), H', J', rfl, q'⟩, fun x y H Q dx dy G QD hR px py ⟨ns, ds, hi, q⟩ hq => by
    obtain ⟨a, C', dx', xs, e1, h1, h2, h3, h4⟩ := hi.of hR py
    rw [hC] at h1; cases h1
    refine ⟨a, dx', _, e1, h2, lsp0 hR (.cons py (.cons px .nil)) q fun v H' d G' s' r' p' ⟨b, e, z⟩ => ?_⟩
    subst e; cases p'
    exact ⟨b, rfl, hq _ _ _ _ s' r' (.bl _) z⟩⟩
/-- len(o) -/
def kLenO (c : Str) (sp : SpD) : RCD := c1 fun x G Q => ∃ ns ds, InsD G x c ns ds ∧ sp [x] G (fun v G1 => ∃ n : Int, v = .int n ∧ 0 ≤ n ∧ n < 2 ^ 63 ∧ Q (.int n) G1) (fun _ _ => False)
theorem cLenO {c : Str} (hC : gaddr X.K c = some C) (hm : Meth X.K C "__len__" f) (F : FnG X.prog X.w X.K X.mg X.base k f fd ps sp) (hg : X.A.guards = some []) (hr : Room (k + 1) X.A) (hb : Binds X.K fd ps []) : CallD X (.builtin "len") (kLenO c sp) :=
  ⟨fun xs H Q => ∃ a dx fs, xs = [.ref a] ∧ H a = some (.ins C dx fs) ∧ lsp X.K sp [.ref a] H (fun v H1 => ∃ n : Int, v = .int n ∧ 0 ≤ n ∧ n < 2 ^ 63 ∧ Q (.int n) H1) E0, fun pins s σ H xs us Q I r ⟨a, dx, fs, ex, ha, q⟩ => by
    subst ex
    obtain ⟨u, rfl, ru⟩ := vals1 r
    obtain rfl : u = Value.ref a := ru
    obtain ⟨m, fr⟩ := fr_of I
    obtain ⟨ox, od, J, _⟩ := inst_of I ha
    refine PySem.W.len_K fr I.ok.mod.kin J hm.at_ hm.fn (wpAny_mono (run_at F (guards_in1 hg) hr.in1 I.env0.in1 hb I (us := [.ref a]) (.cons (vref a) .nil) q) (fun r s' hr' => ?_) fun _ _ z => z)
    obtain ⟨w, H', J', rw', n, ew, h0, h1, q'⟩ := hr'
    subst ew
    obtain ⟨tk, rfl⟩ := rw'
    exact ⟨⟨h0, h1⟩, .int n, H', J'.tok _, ⟨_, rfl⟩, q'⟩, fun xs H Q ds G QD hR hp ⟨x, e, ns, ds', hi, q⟩ hq => by
    subst e
    obtain ⟨v, rfl, px⟩ := rps1 hp
    obtain ⟨a, C', dx', xs', e1, h1, h2, h3, h4⟩ := hi.of hR px
    rw [hC] at h1; cases h1
    subst e1
    refine ⟨a, dx', _, rfl, h2, lsp0 hR (.cons px .nil) q fun v H' d G' s' r' p' ⟨n, e, z0, z1, z⟩ => ?_⟩
    subst e; cases p'
    exact ⟨n, rfl, z0, z1, hq _ _ _ _ s' r' (.int _) z⟩⟩
/-- repr(o) -/
def kReprO (c : Str) (sp : SpD) : RCD := c1 fun x G Q => ∃ ns ds, InsD G x c ns ds ∧ sp [x] G (fun v G1 => ∃ z, v = .str z ∧ Q (.str z) G1) (fun _ _ => False)
theorem cReprO {c : Str} (hC : gaddr X.K c = some C) (hm : Meth X.K C "__repr__" f) (F : FnG X.prog X.w X.K X.mg X.base k f fd ps sp) (hg : X.A.guards = some []) (hr : Room (k + 1) X.A) (hb : Binds X.K fd ps []) : CallD X (.builtin "repr") (kReprO c sp) :=
  ⟨fun xs H Q => ∃ a dx fs, xs = [.ref a] ∧ H a = some (.ins C dx fs) ∧ lsp X.K sp [.ref a] H (fun v H1 => ∃ z, v = .str z ∧ Q (.str z) H1) E0, fun pins s σ H xs us Q I r ⟨a, dx, fs, ex, ha, q⟩ => by
    subst ex
    obtain ⟨u, rfl, ru⟩ := vals1 r
    obtain rfl : u = Value.ref a := ru
    obtain ⟨m, fr⟩ := fr_of I
    obtain ⟨ox, od, J, _⟩ := inst_of I ha
    have hu : X.A.in1.units < cLine := by have := hr.in1.un; omega
    refine PySem.W.repr_K hu fr I.ok.mod.kin J hm.at_ hm.fn (wpAny_mono (run_at F (guards_in1 hg) hr.in1 I.env0.in1 hb I (us := [.ref a]) (.cons (vref a) .nil) q) (fun r s' hr' => ?_) fun _ _ z => z)
    obtain ⟨w, H', J', rw', n, ew, q'⟩ := hr'
    subst ew
    obtain ⟨tk, rfl⟩ := rw'
    exact ⟨.str n, H', J', ⟨_, rfl⟩, q'⟩, fun xs H Q ds G QD hR hp ⟨x, e, ns, ds', hi, q⟩ hq => by
    subst e
    obtain ⟨v, rfl, px⟩ := rps1 hp
    obtain ⟨a, C', dx', xs', e1, h1, h2, h3, h4⟩ := hi.of hR px
    rw [hC] at h1; cases h1
    subst e1
    refine ⟨a, dx', _, rfl, h2, lsp0 hR (.cons px .nil) q fun v H' d G' s' r' p' ⟨n, e, z⟩ => ?_⟩
    subst e; cases p'
    exact ⟨n, rfl, hq _ _ _ _ s' r' (.str _) z⟩⟩
end
end DL

namespace DL
open PySem PySem.Spec PyProof.Rows L2
open PySem.W (Frag)
variable {X : Cx} {W : WX} {e o a b c value : Expr} {es : List Expr} {ta tb tc to tv : TED} {t u : TAD} {tA tB' : TTD} {pos pos' apos cpos : Pos}
section
variable {k : Nat} {f g C p : Addr} {fd : FuncData} {ps : List Str} {sp : SpD}
/-! ### properties -/
theorem getpropG {n : Str} {pins : List (Addr × Obj)} {σ : L2.St} {H : Hp} {s : Shared} {Q : VK} {a dx : Addr} {fs : List (Str × V)} {bb : Bool} {E' : Value → Shared → Prop} (I : Inv X pins σ H s) (ea : H a = some (.ins C dx fs)) (cl : Cls X.K C) (hp : PropOf X.K C n p g)
    (F : FnG X.prog X.w X.K X.mg X.base k g fd ps sp) (hg : X.A.guards = some []) (hr : Room (k + 1) X.A) (hb : Binds X.K fd ps []) (h : lsp X.K sp [.ref a] H Q E0) :
    wpAny (model X.prog X.w) X.A (getAttr (.ref a) n bb) (EP X pins σ Q) E' s := by
  obtain ⟨mA, O, _, _, _, _⟩ := ins_get I.hok ea
  obtain ⟨od, J, _⟩ := O.look
  obtain ⟨rest, hrec⟩ := hp.rec_
  have I1 := I.tok (s.toks + 1)
  have hl : [Value.ref a].length = ps.length := F.llen h
  have b1 := hb { s with toks := s.toks + 1 } [Value.ref a] I1.kIn (by rw [List.append_nil]; exact hl)
  rw [List.append_nil] at b1
  have hc : (PySem.W.clsIn X.K C).isSome = true := by
    obtain ⟨cd, hc, _⟩ := PySem.W.any_some cl.hd
    rw [hc]
    rfl
  refine PySem.W.get_bind I.kIn J (PySem.W.plainGet_of (cl.get n)).1 (PySem.W.findObj_data hc hp.at_ hp.get hp.tak) (PySem.W.plainGet_of (cl.get n)).2 (wpAny_call (PySem.W.prop_get (s := { s with toks := s.toks + 1 }) I.kIn hrec ?_))
  refine codeAny_mono (F.run X.A.in1 X.stack { s with toks := s.toks + 1 } H ⟨[.ref a], []⟩ [.ref a] [.ref a] Q E0 (guards_in1 hg) hr.in1 I1.env0.in1 b1 (.cons (vref a) .nil) h) fun r s' hq => ?_
  cases r with
  | error er => exact False.elim (passL (X := X.nox) pins σ H { s with toks := s.toks + 1 } er s' (I1.wish _) hq)
  | ok fl =>
    cases fl with
    | ret u =>
      obtain ⟨v, H', I3, rv, q3⟩ := I1.after hq
      show wpAny _ _ (handedOut u) _ _ _
      rw [PySem.W.handedOut_of (handed_of rv)]
      exact wpAny_pure ⟨v, H', I3, rv, q3⟩
    | next => exact False.elim hq
    | brk => exact False.elim hq
    | cont => exact False.elim hq
def dProp (c : Str) (sp : SpD) (ta : TED) : TED := fun σ G Q E => ta σ G (fun x G1 => ∃ ns ds, InsD G1 x c ns ds ∧ sp [x] G1 Q (fun _ _ => False)) E
theorem de_prop {c n : Str} (hC : gaddr X.K c = some C) (cl : Cls X.K C) (hp : PropOf X.K C n p g) (F : FnG X.prog X.w X.K X.mg X.base k g fd ps sp) (hg : X.A.guards = some []) (hr : Room (k + 1) X.A) (hb : Binds X.K fd ps []) (ha : DE X W a ta)
    (hab : attributeBase a n X.env (eval a X.env) = eval a X.env := by rfl) : DE X W (.Attribute a n pos) (dProp c sp ta) := by
  have ha' : PE X a (lft X.K W ta) := ha
  refine ⟨fun pins s σ H Q I ⟨σD, G, QD, E, hR, hS, q, hq, hE⟩ => ?_⟩
  refine attr_of hab (thn (ha'.run pins s σ H (fun v H1 => ∃ d G1, Stp H G H1 G1 ∧ RelH X.K H1 G1 ∧ Rp X.K H1 G1 d v ∧ ∃ ns ds, InsD G1 d c ns ds ∧ sp [d] G1 QD (fun _ _ => False)) I ⟨σD, G, _, E, hR, hS, q, fun v H1 d G1 s1 r1 p1 z => ⟨d, G1, s1, r1, p1, z⟩, hE⟩) fun u s1 ⟨x, H1, I1, rx, d, G1, s1', r1, p1, ns, ds, hi, q1⟩ => ?_)
  obtain ⟨a, C', dx, xs, ex, h1, h2, h3, h4⟩ := hi.of r1 p1
  rw [hC] at h1; cases h1
  subst ex
  obtain rfl : u = Value.ref a := rx
  exact getpropG I1 h2 cl hp F hg hr hb (lsp0 r1 (.cons p1 .nil) q1 (hq.mono s1'))
/-! ### the truth of an instance with __bool__ -/
def dTruO (c : Str) (sp : SpD) (ta : TED) : TTD := fun σ G Q E => ta σ G (fun x G1 => ∃ ns ds, InsD G1 x c ns ds ∧ sp [x] G1 (fun v G2 => ∃ b, v = .bl b ∧ Q b G2) (fun _ _ => False)) E
theorem truthyO {c : Str} {pins : List (Addr × Obj)} {σ : L2.St} {H : Hp} {s : Shared} {a dx : Addr} {fs : List (Str × V)} {Q : Bool → Hp → Prop} (hm : Meth X.K C "__bool__" f) (F : FnG X.prog X.w X.K X.mg X.base k f fd ps sp) (hg : X.A.guards = some []) (hr : Room k X.A) (hb : Binds X.K fd ps []) (I : Inv X pins σ H s) (ea : H a = some (.ins C dx fs))
    (h : lsp X.K sp [.ref a] H (fun v H1 => ∃ b, v = .bl b ∧ Q b H1) E0) : wpAny (model X.prog X.w) X.A (truthy (.ref a)) (fun b s' => ∃ H', Inv X pins σ H' s' ∧ Q b H') X.xe s := by
  obtain ⟨m, fr⟩ := fr_of I
  obtain ⟨ox, od, J, _⟩ := inst_of I ea
  refine PySem.W.truthy_K fr I.ok.mod.kin J hm.at_ hm.fn (wpAny_mono (run_at F hg hr I.env0 hb I (us := [.ref a]) (.cons (vref a) .nil) h) (fun r s' hr' => ?_) fun _ _ z => z)
  obtain ⟨w, H', J', rw', b, ew, q'⟩ := hr'
  subst ew
  obtain rfl : r = Value.bool b := rw'
  exact ⟨H', J', q'⟩
theorem dt_truO {c : Str} (hC : gaddr X.K c = some C) (hm : Meth X.K C "__bool__" f) (F : FnG X.prog X.w X.K X.mg X.base k f fd ps sp) (hg : X.A.guards = some []) (hr : Room k X.A) (hb : Binds X.K fd ps []) (ha : DE X W a ta)
    (he : ∀ whole, isTrue a X.env whole = (do let v ← whole; standAt a.pos; holding [v] (truthy v)) := by intro _; rfl) : DT X W a (dTruO c sp ta) := by
  have ha' : PE X a (lft X.K W ta) := ha
  refine ⟨fun pins s σ H Q I ⟨σD, G, QD, E, hR, hS, q, hq, hE⟩ => ?_⟩
  refine isTrue_plain (thn (ha'.run pins s σ H (fun v H1 => ∃ d G1, Stp H G H1 G1 ∧ RelH X.K H1 G1 ∧ Rp X.K H1 G1 d v ∧ ∃ ns ds, InsD G1 d c ns ds ∧ sp [d] G1 (fun v G2 => ∃ b, v = .bl b ∧ QD b G2) (fun _ _ => False)) I ⟨σD, G, _, E, hR, hS, q, fun v H1 d G1 s1 r1 p1 z => ⟨d, G1, s1, r1, p1, z⟩, hE⟩) fun u s1 ⟨x, H1, I1, rx, d, G1, s1', r1, p1, ns, ds, hi, q1⟩ => ?_) (he _)
  obtain ⟨a, C', dx, xs, ex, h1, h2, h3, h4⟩ := hi.of r1 p1
  rw [hC] at h1; cases h1
  subst ex
  obtain rfl : u = Value.ref a := rx
  exact truthyO (c := c) hm F hg hr hb I1 h2 (lsp0 r1 (.cons p1 .nil) q1 fun v H' d G' s' r' p' ⟨b, e, z⟩ => by
    subst e; cases p'
    exact ⟨b, rfl, hq _ _ _ (s1'.trans s') r' z⟩)
/-! ### operators of own classes -/
def dOpO (c : Str) (sp : SpD) (ta tb : TED) : TED := fun σ G Q E => ta σ G (fun x G1 => tb σ G1 (fun y G2 => ∃ ns ds ns' ds', InsD G2 x c ns ds ∧ InsD G2 y c ns' ds' ∧ sp [x, y] G2 Q E) E) E
theorem InsD.mono' {K H G H' G' x c ns ds v} (h : InsD G' x c ns ds) (hR : RelH K H' G') (s : Stp H G H' G') (p : Rp K H G x v) : Rp K H' G' x v := p.mono s
theorem de_opO {c : Str} {op : Operator} {m : Str} (hC : gaddr X.K c = some C) (hsf : PySem.W.selfFirst X.K C = true) (hm : Meth X.K C m f) (em : PySem.dunder op.info.2 = m) (F : FnG X.prog X.w X.K X.mg X.base k f fd ps sp) (hg : X.A.guards = some []) (hr : Room k X.A) (hb : Binds X.K fd ps []) (tk : Takes X W)
    (ha : DE X W a ta) (hb' : DE X W b tb) : DE X W (.BinOp a op b pos) (dOpO c sp ta tb) := by
  have ha1 : PE X a (lft X.K W ta) := ha
  have hb1 : PE X b (lft X.K W tb) := hb'
  refine ⟨fun pins s σ H Q I ⟨σD, G, QD, E, hR, hS, q, hq, hE⟩ => ?_⟩
  refine wpAny_BinOp (binT ha1 hb1 (R := fun x y H2 => ∃ aa dx fs bb dy gs, x = .ref aa ∧ y = .ref bb ∧ H2 aa = some (.ins C dx fs) ∧ H2 bb = some (.ins C dy gs) ∧ lsp X.K sp [x, y] H2 Q (WE W σ)) I ?_ fun v u s2 x y H2 I2 rx ry ⟨aa, dx, fs, bb, dy, gs, ex, ey, ea, eb, hl⟩ => ?_)
  · refine ⟨σD, G, _, E, hR, hS, q, fun v1 H1 d1 G1 s1 r1 p1 q1 => ?_, hE⟩
    refine ⟨σD, G1, _, E, r1, hS.mono s1, q1, fun v2 H2 d2 G2 s2 r2 p2 ⟨ns, ds, ns', ds', hi, hj, q2⟩ => ?_, hE.mono s1⟩
    have p1' := p1.mono s2
    obtain ⟨aa, C1, dx, xs, e1, h1, h2, _, _⟩ := hi.of r2 p1'
    obtain ⟨bb, C2, dy, ys, e2, k1, k2, _, _⟩ := hj.of r2 p2
    rw [hC] at h1 k1; cases h1; cases k1
    exact ⟨aa, dx, _, bb, dy, _, e1, e2, h2, k2, [d1, d2], G2, QD, E, r2, .cons p1' (.cons p2 .nil), q2, hq.mono (s1.trans s2), fun xd cls d' H' G' s' r' p' z' => hE _ _ _ _ _ ((s1.trans s2).trans s') r' p' z'⟩
  · subst ex; subst ey
    obtain rfl : v = Value.ref aa := rx
    obtain rfl : u = Value.ref bb := ry
    obtain ⟨m', fr⟩ := fr_of I2
    obtain ⟨ox, od, J, _⟩ := inst_of I2 ea
    obtain ⟨oy, oe, J2, _⟩ := inst_of I2 eb
    refine PySem.W.binop_K fr I2.ok.mod.kin J J2.type hsf (by rw [em]; exact hm.at_) hm.fn (wpAny_mono (run_call F hg hr hb tk I2 (us := [.ref aa, .ref bb]) (vs := [.ref aa, .ref bb]) (.cons (vref aa) (.cons (vref bb) .nil)) hl) (fun r s' hr' => ?_) fun _ _ z => z)
    obtain ⟨w, H', J', rw', q'⟩ := hr'
    cases r <;> first | exact ⟨w, H', J', rw', q'⟩ | (cases w <;> first | exact (nomatch rw') | (obtain ⟨_, z⟩ := rw'; cases z))
end
end DL

namespace DL
open PySem PySem.Spec PyProof.Rows L2
open PySem.W (Frag)
variable {X : Cx} {W : WX} {e o a b c value : Expr} {es : List Expr} {ta tb tc to tv : TED} {t u : TAD} {tA tB' : TTD} {pos pos' apos cpos : Pos}
/-! ### errors of own classes: raised -/
theorem Rps.reverse {K H G} : ∀ {ds : List D} {vs : List V}, Rps K H G ds vs → Rps K H G ds.reverse vs.reverse
  | _, _, .nil => .nil
  | _, _, .cons a r => by rw [List.reverse_cons, List.reverse_cons]; exact (Rps.reverse r).append (.cons a .nil)
/-- what __init__ leaves: the fields, the last one first -/
def spExc (C : Addr) (fns : List Str) : Sp := fun vs H Q _ => ∃ a ws, vs = .ref a :: ws ∧ ws.length = fns.length ∧ H a = some (exo a C none) ∧ ∀ dx, H dx = none → dx ≠ a → Q .non (upd (upd H dx (exd dx (fns.reverse.zip ws.reverse))) a (exo a C (some dx)))
section
variable {P : Program} {w : World} {K : Frag} {mg : Str → Option Value} {base : Heap}
theorem fn_exc1 {C : Addr} {qual p f : Str} {st : Stmt} {fI : Addr} {fd : FuncData} (T : OexC K C) (no : PySem.W.findIn K (.ref C) f = some none) (F : Fun K "__init__" qual st fI fd) (S : FnScope ["self", p] ["self", p] (defScope st))
    (hd : (p == ("__debug__" : Str)) = false) (hcd : (p == ("__classdict__" : Str)) = false) (hl : (defScope st).names.lookup p = some .local) (hs : (defScope st).names.lookup ("self" : Str) = some .local)
    (hb : ∃ q1 q2 q3 q4, defBody st = [.Assign [.Attribute (.Name "self" q1) f q2] (.Name p q3) q4]) :
    FnOk P w K mg base CX0 1 fI fd ["self", p] (spExc C [f]) := by
  obtain ⟨q1, q2, q3, q4, hb⟩ := hb
  refine F.ok (k := 0) S ?_ fun cdv A outer s H vs Q E hr hsp => ?_
  · rintro vs H Q E ⟨a, ws, rfl, h1, _⟩
    simpa using h1
  obtain ⟨a, ws, rfl, h1, h2, hq⟩ := hsp
  obtain ⟨v, rfl⟩ : ∃ v, ws = [v] := by
    cases ws with
    | nil => simp at h1
    | cons v r => cases r with
      | nil => exact ⟨v, rfl⟩
      | cons _ _ => simp at h1
  refine ⟨_, by rw [hb]; exact pss_one (ps_ost (pe_var (i := 0) rfl (Or.inl hs)) (pe_var (i := 1) rfl (Or.inl hl) hd hcd) (by rfl)), ?_⟩
  refine ⟨v, rfl, .ref a, rfl, a, C, rfl, T, no, .inl ⟨h2, fun dx hdx hne => hq dx hdx hne⟩⟩
theorem fn_exc2 {C : Addr} {qual p q f g : Str} {st : Stmt} {fI : Addr} {fd : FuncData} (T : OexC K C) (no : PySem.W.findIn K (.ref C) f = some none) (no2 : PySem.W.findIn K (.ref C) g = some none) (F : Fun K "__init__" qual st fI fd) (S : FnScope ["self", p, q] ["self", p, q] (defScope st))
    (hd : (p == ("__debug__" : Str)) = false) (hcd : (p == ("__classdict__" : Str)) = false) (hl : (defScope st).names.lookup p = some .local) (hs : (defScope st).names.lookup ("self" : Str) = some .local)
    (hd2 : (q == ("__debug__" : Str)) = false) (hcd2 : (q == ("__classdict__" : Str)) = false) (hl2 : (defScope st).names.lookup q = some .local)
    (hb : ∃ q1 q2 q3 q4 r1 r2 r3 r4, defBody st = [.Assign [.Attribute (.Name "self" q1) f q2] (.Name p q3) q4, .Assign [.Attribute (.Name "self" r1) g r2] (.Name q r3) r4]) :
    FnOk P w K mg base CX0 1 fI fd ["self", p, q] (spExc C [f, g]) := by
  obtain ⟨q1, q2, q3, q4, r1, r2, r3, r4, hb⟩ := hb
  refine F.ok (k := 0) S ?_ fun cdv A outer s H vs Q E hr hsp => ?_
  · rintro vs H Q E ⟨a, ws, rfl, h1, _⟩
    simpa using h1
  obtain ⟨a, ws, rfl, h1, h2, hq⟩ := hsp
  obtain ⟨v, v', rfl⟩ : ∃ v v', ws = [v, v'] := by
    cases ws with
    | nil => simp at h1
    | cons v r => cases r with
      | nil => simp at h1
      | cons v' r => cases r with
        | nil => exact ⟨v, v', rfl⟩
        | cons _ _ => simp at h1
  refine ⟨_, by rw [hb]; exact pss_cons (ps_ost (pe_var (i := 0) rfl (Or.inl hs)) (pe_var (i := 1) rfl (Or.inl hl) hd hcd) (by rfl)) (pss_one (ps_ost (pe_var (i := 0) rfl (Or.inl hs)) (pe_var (i := 2) rfl (Or.inl hl2) hd2 hcd2) (by rfl))), ?_⟩
  refine ⟨v, rfl, .ref a, rfl, a, C, rfl, T, no, .inl ⟨h2, fun dx hdx hne => ?_⟩⟩
  refine ⟨v', rfl, .ref a, rfl, a, C, rfl, T, no2, .inr ⟨dx, [(f, v)], upd_same, by rw [upd_ne hne]; exact upd_same, by simp, ?_⟩⟩
  have e : upd (upd (upd H dx (exd dx [(f, v)])) a (exo a C (some dx))) dx (exd dx ((g, v') :: [(f, v)])) = upd (upd H dx (exd dx ([f, g].reverse.zip [v, v'].reverse))) a (exo a C (some dx)) := by
    funext b
    by_cases hb : b = dx
    · subst hb; rw [upd_same, upd_ne hne, upd_same]; rfl
    · by_cases ha : b = a
      · subst ha; rw [upd_ne hb, upd_same, upd_same]
      · rw [upd_ne hb, upd_ne ha, upd_ne hb, upd_ne ha, upd_ne hb]
  show Q .non _
  rw [e]
  exact hq dx hdx hne
end
def dRaise (c : Str) (fns : List Str) (t : TAD) : TSD := fun D σ G => t σ G (fun ds G1 => ds.length = fns.length ∧ D.ex ⟨.own c, fns.reverse, ds.reverse⟩ σ G1) (fun x G' => D.ex x σ G')
section
variable {k : Nat} {C fI : Addr} {fd : FuncData} {ps : List Str} {c x : Str} {p : Pos} {fns : List Str}
theorem ds_raise (hc : X.calm = true) (tk : Takes X W) (hC : gaddr X.K c = some C) (T : OexC X.K C) (iC : PySem.W.findIn X.K (.ref C) "__init__" = some (some (.ref fI))) (tI : PySem.W.typeIn X.K (.ref fI) = some (.type "function"))
    (F1 : FnOk X.prog X.w X.K X.mg X.base CX0 k fI fd ps (spExc C fns)) (hr : Room (k + 1) X.A) (hb : Binds X.K fd ps []) (hg : Gl X x) (hm : X.mg x = some (.ref C)) (hn : fns.length ≤ 1000) (ha : DA X W (e :: es) t)
    (hdb : (x == ("__debug__" : Str)) = false := by decide) (he : starEach (e :: es) X.env = (false, eval e X.env) :: starEach es X.env := by rfl) (hpl : (backTo pos' (starEach es X.env)).any (·.1) = false := by rfl) :
    DS X W (.Raise (some (.Call (.Name x p) (e :: es) [] pos')) none pos) (dRaise c fns t) := by
  refine PS.imp (ps_raise hc tk (pmk_oex (pos := pos') T iC tI F1 hr hb .nil (fun _ _ _ _ _ _ _ z => z.elim) hg hm ha hdb he hpl)) fun D σ H ⟨σD, G, DD, hR, hS, q, hE⟩ => ?_
  refine ⟨σD, G, _, _, hR, hS, q, fun vs H1 ds G1 s1 r1 p1 ⟨hl, z⟩ => ?_, hE.ex.at hS⟩
  refine ⟨by rw [← p1.length]; omega, fun a ha => ⟨a, vs ++ [], rfl, by rw [List.append_nil, ← p1.length]; exact hl, upd_same, fun dx hdx hne => ⟨rfl, dx, _, upd_same, by rw [upd_ne hne]; exact upd_same, by rw [← hdx, upd_ne hne], ?_⟩⟩⟩
  rw [List.append_nil]
  have hd1 : H1 dx = none := by rw [← hdx, upd_ne hne]
  have e : upd (del (upd (upd (upd H1 a (exo a C none)) dx (exd dx (fns.reverse.zip vs.reverse))) a (exo a C (some dx))) a) dx (.xd (fns.reverse.zip vs.reverse)) = upd H1 dx (.xd (fns.reverse.zip vs.reverse)) := by
    funext b
    by_cases hb : b = dx
    · subst hb; rw [upd_same, upd_same]
    · rw [upd_ne hb, upd_ne hb]
      by_cases hba : b = a
      · subst hba; rw [del_same, ha]
      · rw [del_ne hba, upd_ne hba, upd_ne hb, upd_ne hba]
  rw [e]
  have s2 := Stp.new (G := G1) (o := .xd (fns.reverse.zip vs.reverse)) hd1
  exact hE.ex ⟨.own c, fns.reverse, ds.reverse⟩ _ _ _ σD _ G1 (s1.trans s2) (r1.new hd1) (hS.mono (s1.trans s2)) ⟨⟨C, hC, rfl⟩, vs.reverse, upd_same, r1.free hd1, by rw [List.length_reverse, List.length_reverse, ← p1.length]; exact hl.symm, (p1.mono s2).reverse⟩ z
end
end DL

namespace DL
open PySem PySem.Spec PyProof.Rows L2
open PySem.W (Frag)
variable {X : Cx} {W : WX} {e o a b c value : Expr} {es : List Expr} {ta tb tc to tv : TED} {t u : TAD} {tA tB' : TTD} {pos pos' apos cpos : Pos}
/-! ### defs f(a, .., *v) -/
/-- as FnG, by the arguments as they are given -/
def FnS (P : Program) (w : World) (K : Frag) (mg : Str → Option Value) (base : Heap) (k : Nat) (f : Addr) (sp : SpD) : Prop :=
  ∀ (A : Around) (outer : List Env) (s : Shared) (H : Hp) (us : List Value) (vs : List V) (Q : VK) (E : XK), A.guards = some [] → Room k A → Env0 P w K mg base A outer s H → Vals vs us → lsp K sp vs H Q E →
    codeAny (model P w) A (.call (.ref f) ⟨us, []⟩) (CR (L2.CX P w) outer P w H s Q E) s
/-- what is left over is a new tuple -/
def starSp (m : Nat) (sp : SpD) : SpD := fun ds G Q E => m ≤ ds.length ∧ ds.length ≤ sizeLine ∧ sp (ds.take m ++ [.tup (ds.drop m)]) G Q E
section
variable {P : Program} {w : World} {K : Frag} {mg : Str → Option Value} {base : Heap}
theorem FunG.star {x qual : Str} {st : Stmt} {f : Addr} {fd : FuncData} {N ps : List Str} {pv : Str} {k : Nat} {sp : SpD} (F : Fun K x qual st f fd) (S : FnScope N (ps ++ [pv]) (defScope st))
    (hb : ∀ us rest : List Value, us.length = ps.length → bindArgs fd ⟨us ++ rest, []⟩ = (newTuple rest >>= fun t => pure (ps.zip us ++ [(pv, t)])))
    (len : ∀ ds G Q E, sp ds G Q E → ds.length = ps.length + 1)
    (hbody : ∀ (cdv : Value) (A : Around) (outer : List Env) (s : Shared) (H : Hp) (E : XK), A.guards = some [] → Room k (A.deeper (envOfC qual (defScope st) s.heap.objs.size f cdv)) →
      ∃ t, DSs (cxOf (L2.CX P w) P w K mg base N qual (defScope st) f cdv A outer s H E) (WD E) (defBody st) t ∧
        ∀ ds G Q EX, sp ds G Q EX → t { nx := fun _ G' => Q .non G', rt := Q, ex := fun x _ G' => EX x G' } (startD N ds) G) : FnS P w K mg base (k + 1) f (starSp ps.length sp) := by
  obtain ⟨oc, od, kV, doc, pm, an, cdv, ct, osl, rfl, lk, hcd⟩ := F.ex
  intro A outer s H us vs Q E hgd hr e0 r ⟨ds, G, QD, EX, hR, hrp, ⟨hlen, hz, hq⟩, hct, hex⟩
  have hlv := hrp.length
  have hlu := r.length
  have hn : H s.heap.objs.size = Option.none := e0.hok.fresh (Nat.le_refl _)
  have hl1 : (us.take ps.length).length = ps.length := by rw [List.length_take]; omega
  have hl2 : (us.drop ps.length).length ≤ sizeLine := by rw [List.length_drop]; omega
  have r1 : Vals (vs.take ps.length) (us.take ps.length) := by
    obtain ⟨u1, u2, eu, a1, a2⟩ := StX.vals_split (ws := vs.take ps.length) (rest := vs.drop ps.length) (by rw [List.take_append_drop]; exact r)
    have : u1 = us.take ps.length := by
      rw [eu, List.take_append_of_le_length (by rw [← a1.length, List.length_take]; omega), List.take_of_length_le (by rw [← a1.length, List.length_take]; omega)]
    rw [← this]; exact a1
  have r2 : Vals (vs.drop ps.length) (us.drop ps.length) := by
    obtain ⟨u1, u2, eu, a1, a2⟩ := StX.vals_split (ws := vs.take ps.length) (rest := vs.drop ps.length) (by rw [List.take_append_drop]; exact r)
    have hu1 : u1.length = ps.length := by rw [← a1.length, List.length_take]; omega
    have : u2 = us.drop ps.length := by
      rw [eu, ← hu1, List.drop_left]
    rw [← this]; exact a2
  have eus : us = us.take ps.length ++ us.drop ps.length := (List.take_append_drop _ _).symm
  refine StX.run_bnd lk hcd S hr e0 (G := fun xs H2 => ∃ p, H p = Option.none ∧ xs = vs.take ps.length ++ [V.ref p] ∧ H2 = upd H p (.tup (vs.drop ps.length))) (fun A' Ex Q' h => ?_) fun s2 H2 xs ⟨p, hp, ex, eH⟩ hr' => ?_
  · rw [eus, hb _ _ hl1]
    refine wpAny_bind (wpAny_newTuple (wpAny_pure ?_) hl2)
    have new : ObjOk P w (upd H s.heap.objs.size (.tup (vs.drop ps.length))) (s.heap.push ({ cls := .type "tuple", data := .seq (us.drop ps.length).toArray } : Obj)) s.heap.objs.size (.tup (vs.drop ps.length)) := ⟨by rw [r2.length]; exact hl2, us.drop ps.length, r2, ⟨_, Heap.get?_push_size _ rfl, rfl, _, rfl⟩⟩
    have un := StX.un_laid (fs := frs outer) (s := s) (o := ({ cls := .type "tuple", data := .seq (us.drop ps.length).toArray } : Obj)) (u := .tup (vs.drop ps.length)) hn
    have z := h _ _ (vs.take ps.length ++ [V.ref s.heap.objs.size]) (us.take ps.length ++ [Value.ref s.heap.objs.size]) (StX.env0_laid e0 new) un rfl (fun e s' => StX.cxUp outer s H _ _ E e s' un (fun b o q => Heap.get?_push_of_some _ q) rfl) (r1.append (.cons rfl .nil))
      (by rw [List.length_append, List.length_append, r1.length, hl1] <;> rfl) ⟨_, hn, rfl, rfl⟩
    rw [List.zip_append hl1.symm] at z
    exact z
  · subst ex eH
    obtain ⟨t, ht, hv⟩ := hbody cdv A outer s2 (upd H p (.tup (vs.drop ps.length))) E hgd hr'
    refine ⟨_, ht, startD N (ds.take ps.length ++ [.tup (ds.drop ps.length)]), G, _, hR.new hp, ?_, hv _ G QD EX hq, ?_⟩
    · refine SRp.start (((hrp.take _).mono (Stp.new hp)).append (.cons (.tup (.inl ⟨upd_same, hR.free hp⟩) ((hrp.drop _).mono (Stp.new hp))) .nil))
    · have s0 := Stp.new (G := G) (o := .tup (vs.drop ps.length)) hp
      exact ⟨fun _ H' _ G' s r _ z => hct _ _ _ _ (s0.trans s) r .non z, fun v H' d G' s r p' q => hct v H' d G' (s0.trans s) r p' q, fun _ _ _ _ _ _ _ z => z.elim, fun _ _ _ _ _ _ _ z => z.elim, fun x cls d _ _ H' G' s r _ p' z => hex x cls d H' G' (s0.trans s) r p' z⟩
end
section
variable {k : Nat} {f C : Addr} {sp : SpD} {c x : Str} {p sp_ : Pos}
theorem run_makeS {pins : List (Addr × Obj)} {σ : L2.St} {H : Hp} {s : Shared} {Q : VK} {us : List Value} {vs : List V} (M : Mk X.K C f) (F : FnS X.prog X.w X.K X.mg X.base k f sp) (hg : X.A.guards = some []) (hr : Room (k + 1) X.A) (tk : Takes X W)
    (I : Inv X pins σ H s) (r : Vals vs us)
    (h : ∀ x dx, H x = none → H dx = none → dx ≠ x → lsp X.K sp (.ref x :: vs) (upd (upd H dx (.own x)) x (.ins C dx [])) (fun v H2 => v = .non ∧ Q (.ref x) H2) (WE W σ)) :
    wpAny (model X.prog X.w) X.A (call (.ref C) us) (EP X pins σ Q) X.xe s := by
  have hq := h (s.heap.objs.size + 1) s.heap.objs.size (I.hok.fresh (Nat.le_succ _)) (I.hok.fresh (Nat.le_refl _)) (Nat.ne_of_lt (Nat.lt_succ_self _))
  have I2 := Inv.made (C := C) I
  have r2 : Vals (V.ref (s.heap.objs.size + 1) :: vs) (Value.ref (s.heap.objs.size + 1) :: us) := .cons rfl r
  refine wpAny_call (make_map (f := f) I.kIn M.makes M.init (beq_iff_eq.mp M.fn) (codeAny_mono (F _ X.stack _ _ (Value.ref (s.heap.objs.size + 1) :: us) _ _ (WE W σ) (guards_make hg C us []) (hr.make C us []) (I2.env0.make C us []) r2 hq) fun r s' hq' => ?_))
  cases r with
  | error e => exact passAt tk σ pins _ _ e s' I2 hq'
  | ok fl =>
    cases fl with
    | ret u =>
      obtain ⟨v, H', I3, rv, ev, q3⟩ := I2.after hq'
      subst ev
      exact ⟨rv, ⟨V.ref (s.heap.objs.size + 1), H', I3, rfl, q3⟩⟩
    | next => exact False.elim hq'
    | brk => exact False.elim hq'
    | cont => exact False.elim hq'
theorem de_makeS (fr : Bool) (hC : gaddr X.K c = some C) (M : Mk X.K C f) (F : FnS X.prog X.w X.K X.mg X.base k f sp) (hgd : X.A.guards = some []) (hr : Room (k + 1) X.A) (hg : Gl X x) (hm : X.mg x = some (.ref C)) (tk : Takes X W)
    (ha : DA X W (e :: es) t) (hdb : (x == ("__debug__" : Str)) = false := by decide) (he : starEach (e :: es) X.env = (false, eval e X.env) :: starEach es X.env := by rfl) (hpl : (backTo pos (starEach es X.env)).any (·.1) = false := by rfl) :
    DE X W (.Call (.Name x p) (e :: es) [] pos) (dMake fr c sp t) := by
  have ha' : PA X (e :: es) (lftA X.K W t) := ha
  refine ⟨fun pins s σ H Q I h => ?_⟩
  refine wpAny_Call_Name_kw (ld_glob I hg hm ?_ hdb)
  exact PySem.W.callWith_K (h₀ := X.base) I.ok.mod.kin M.kp (thn (ha'.run pos pins s σ H _ I (lft_make hC h)) fun us s1 ⟨vs, H1, I1, r, q⟩ => ⟨I1.kIn, run_makeS M F hgd hr tk I1 r q⟩) he hpl
theorem de_makeS0 (fr : Bool) (hC : gaddr X.K c = some C) (M : Mk X.K C f) (F : FnS X.prog X.w X.K X.mg X.base k f sp) (hgd : X.A.guards = some []) (hr : Room (k + 1) X.A) (hg : Gl X x) (hm : X.mg x = some (.ref C)) (tk : Takes X W)
    (hdb : (x == ("__debug__" : Str)) = false := by decide) : DE X W (.Call (.Name x p) [] [] pos) (dMake fr c sp dNil) := by
  refine ⟨fun pins s σ H Q I h => ?_⟩
  refine wpAny_Call_Name_kw (ld_glob I hg hm ?_ hdb)
  obtain ⟨σD, G, QD, E, hR, hS, q, hq, hE⟩ := lft_make hC h
  exact PySem.W.callWith_K0 I.kIn M.kp (run_makeS (us := []) (vs := []) M F hgd hr tk I .nil (hq [] H [] G Stp.refl hR .nil q))
/-- *e as the only argument -/
def dStar1 (ta : TED) : TAD := fun σ G Q E => ta σ G (fun x G1 => ∃ xs, Sq G1 x xs ∧ Q xs G1) E
theorem de_makeS1 (fr : Bool) (hC : gaddr X.K c = some C) (M : Mk X.K C f) (F : FnS X.prog X.w X.K X.mg X.base k f sp) (hgd : X.A.guards = some []) (hr : Room (k + 1) X.A) (hg : Gl X x) (hm : X.mg x = some (.ref C)) (tk : Takes X W)
    (he : DE X W e ta) (hdb : (x == ("__debug__" : Str)) = false := by decide) (hst : starEach [.Starred e sp_] X.env = [(true, eval e X.env)] := by rfl) :
    DE X W (.Call (.Name x p) [.Starred e sp_] [] pos) (dMake fr c sp (dStar1 ta)) := by
  have he' : PE X e (lft X.K W ta) := he
  refine ⟨fun pins s σ H Q I h => ?_⟩
  refine wpAny_Call_Name_kw (ld_glob I hg hm ?_ hdb)
  obtain ⟨σD, G, QD, E, hR, hS, q, hq, hE⟩ := lft_make hC h
  refine PySem.W.callWith_S (h₀ := X.base) I.ok.mod.kin M.kp (thn (he'.run pins s σ H (fun v H1 => ∃ d G1 xs, Stp H G H1 G1 ∧ RelH X.K H1 G1 ∧ Rp X.K H1 G1 d v ∧ Sq G1 d xs ∧ QD xs G1) I ⟨σD, G, _, E, hR, hS, q, fun v H1 d G1 s1 r1 p1 ⟨xs, z1, z2⟩ => ⟨d, G1, xs, s1, r1, p1, z1, z2⟩, hE⟩) fun v s1 ⟨y, H1, I1, ry, d, G1, xs, s1', r1, p1, z1, z2⟩ => ?_) hst
  obtain ⟨a, vs, ey, hsq, hrs⟩ := z1.of r1 p1
  subst ey
  obtain rfl : v = Value.ref a := ry
  exact StX.star_any I1 (hsq.elim .inr .inl) fun us s2 I2 rv => ⟨I2.kIn, run_makeS M F hgd hr tk I2 rv (hq vs H1 xs G1 s1' r1 hrs z2)⟩
end
end DL

namespace DL
open PySem PySem.Spec PyProof.Rows L2
open PySem.W (Frag)
variable {X : Cx} {W : WX} {e o a b c value : Expr} {es : List Expr} {ta tb tc to tv : TED} {t u : TAD} {tA tB' : TTD} {pos pos' apos cpos : Pos}
/-! ### texts: methods -/
def tyS : D → HH → Prop := fun x _ => ∃ z, x = .str z
theorem tyS_v {K H G d v} (p : Rp K H G d v) (h : tyS d G) : tyV K "str" v H := by
  obtain ⟨z, e⟩ := h
  subst e; cases p
  rfl
def mJoin : D → List D → HH → QD → Prop := fun x ds G Q => ∃ a y, ∃ ys : List Str, x = .str a ∧ ds = [y] ∧ Sq G y (ys.map D.str) ∧ (ys.map (·.length)).sum + ys.length * a.length ≤ 16777216 ∧ Q (.str (Txt.join a ys)) G
theorem mdJoin : MtD X "str" "str.join" tyS mJoin := ⟨fun _ _ _ _ _ p h => tyS_v p h, _, mt_join, fun x us H Q d ds G QD hR hp hps ⟨a, y, ys, e1, e2, e3, l, q⟩ hq => by
  subst e1; subst e2; cases hp
  obtain ⟨w, rfl, py⟩ := rps1 hps
  obtain ⟨p, vs, rfl, h, r⟩ := e3.of hR py
  rw [r.strs] at h
  exact ⟨a, p, ys, rfl, rfl, h, l, hq.now hR (.str _) q⟩⟩
theorem de_join (ho : DE X W o to) (ha : DA X W (e :: es) t)
    (hbase : attributeBase o "join" X.env (eval o X.env) = eval o X.env := by rfl)
    (hfew : ((backTo cpos (starEach (e :: es) X.env)).all (fun x => !x.1) && (backToKw cpos (keywordEach [] X.env)).all (fun x => x.1.isSome)
      && decide ((e :: es).length + ([] : List Keyword).length + (if ([] : List Keyword).isEmpty then 0 else 1) < 30)) = true := by rfl)
    (hline : (apos.endLine == cpos.line) = true := by rfl) (hs : starEach (e :: es) X.env = (false, eval e X.env) :: starEach es X.env := by rfl) (hplain : (backTo cpos (starEach es X.env)).any (·.1) = false := by rfl) :
    DE X W (.Call (.Attribute o "join" apos) (e :: es) [] cpos) (dBM tyS mJoin to t) := de_bm PySem.F.plainAttrs_str PySem.F.slot_str_join PySem.F.type_str_join mdJoin ho ha hbase hfew hline hs hplain
theorem st_join' {G : HH} {Q : QD} {a : Str} {y : D} {ys : List Str} (h : Sq G y (ys.map D.str)) (hl : (ys.map (·.length)).sum + ys.length * a.length ≤ 16777216) (q : Q (.str (Txt.join a ys)) G) : mJoin (.str a) [y] G Q := ⟨a, y, ys, rfl, rfl, h, hl, q⟩
theorem st_tyS {G : HH} {z : Str} {P : Prop} (h : P) : tyS (.str z) G ∧ P := ⟨⟨z, rfl⟩, h⟩
/-! ### f-texts -/
def dJs : List TED → Str → SD → HH → (Str → HH → Prop) → ED → Prop
  | [], acc, _, G, Q, _ => Q acc G
  | t :: ts, acc, σ, G, Q, E => t σ G (fun x G1 => ∃ y, x = .str y ∧ (acc ++ y).length ≤ sizeLine ∧ dJs ts (acc ++ y) σ G1 Q E) E
inductive DJ (X : Cx) (W : WX) : List Expr → List TED → Prop
  | nil : DJ X W [] []
  | cons {e : Expr} {t : TED} {es : List Expr} {ts : List TED} (h : DE X W e t) (r : DJ X W es ts) : DJ X W (e :: es) (t :: ts)
theorem DJ.pj {es : List Expr} {ts : List TED} (h : DJ X W es ts) : PJ X es (ts.map (lft X.K W)) := by
  induction h with
  | nil => exact .nil
  | cons h r ih => exact .cons h ih
theorem dJs_to {K : Frag} {σD : SD} {σ : L2.St} {QD : Str → HH → Prop} {E : ED} {Q : Str → Hp → Prop} : ∀ (ts : List TED) (acc : Str) (H : Hp) (G : HH), RelH K H G → SRp K H G σD σ → dJs ts acc σD G QD E → (∀ z H' G', Stp H G H' G' → RelH K H' G' → QD z G' → Q z H') → Exs K W σ H G E → tJs (ts.map (lft K W)) acc σ H Q
  | [], acc, H, G, hR, hS, q, hq, hE => hq _ _ _ Stp.refl hR q
  | t :: ts, acc, H, G, hR, hS, q, hq, hE => ⟨σD, G, _, E, hR, hS, q, fun v H1 d G1 s1 r1 p1 ⟨y, e, l, z⟩ => by
      subst e; cases p1
      exact ⟨y, rfl, l, dJs_to ts _ H1 G1 r1 (hS.mono s1) z (fun z H' G' s r q => hq z H' G' (s1.trans s) r q) (hE.mono s1)⟩, hE⟩
def dFStr (ts : List TED) : TED := fun σ G Q E => dJs ts Str.empty σ G (fun z G1 => Q (.str z) G1) E
theorem de_fstr {v1 v2 : Expr} {rest : List Expr} {ts : List TED} (h : DJ X W (v1 :: v2 :: rest) ts) : DE X W (.JoinedStr (v1 :: v2 :: rest) pos) (dFStr ts) :=
  PE.imp (pe_joined h.pj) fun σ H Q ⟨σD, G, QD, E, hR, hS, q, hq, hE⟩ => dJs_to ts _ H G hR hS q (fun z H' G' s r q => hq _ _ _ _ s r (.str z) q) hE
def dFmt (ta : TED) : TED := fun σ G Q E => ta σ G (fun x G1 => (∃ y : Str, x = .str y ∧ y.length ≤ sizeLine ∧ Q (.str y) G1) ∨ ∃ i : Int, x = .int i ∧ i.natAbs.log2 < 1920 ∧ Q (.str (toString i)) G1) E
theorem de_fmt (ha : DE X W a ta) : DE X W (.FormattedValue a (-1) none pos) (dFmt ta) := PE.imp (pe_fmt ha) fun σ H Q ⟨σD, G, QD, E, hR, hS, q, hq, hE⟩ =>
  ⟨σD, G, _, E, hR, hS, q, fun v H1 d G1 s1 r1 p1 z => by
    rcases z with ⟨y, e, l, z⟩ | ⟨i, e, l, z⟩ <;> subst e <;> cases p1
    · exact .inl ⟨y, rfl, l, hq _ _ _ _ s1 r1 (.str _) z⟩
    · exact .inr ⟨i, rfl, l, hq _ _ _ _ s1 r1 (.str _) z⟩, hE⟩
end DL

namespace DL
open PySem PySem.Spec PyProof.Rows L2
open PySem.W (Frag)
variable {X : Cx} {W : WX} {e o a b c value : Expr} {es : List Expr} {ta tb tc to tv : TED} {t u : TAD} {tA tB' : TTD} {pos pos' apos cpos : Pos}
/-! ### isinstance -/
theorem de_bltn {x : Str} {T : String} (hg : Gl X x) (hm : X.mg x = none) (hv : bootBuiltins x = some (.type T)) (hn : x ≠ "__name__" := by decide) (hd : (x == ("__debug__" : Str)) = false := by decide) : DE X W (.Name x pos) (dC (.ty T)) :=
  PE.imp (pe_bltn (v := .ty T) hg hm hv rfl hn hd) fun _ _ _ => lft_C fun _ _ => .ty T
theorem de_gv {x : Str} {A : Addr} (h : gaddr X.K x = some A) (hg : Gl X x) (hm : X.mg x = some (.ref A)) (hd : (x == ("__debug__" : Str)) = false := by decide) : DE X W (.Name x pos) (dC (.gv x)) :=
  PE.imp (pe_glob (v := .ref A) hg hm rfl hd) fun _ _ _ => lft_C fun _ _ => .gv h
/-- what kind a value is -/
inductive Kd where
  | bi (T : String) | own (c : Str)
inductive TyD (G : HH) : D → Kd → Prop
  | non : TyD G .non (.bi "NoneType")
  | bl (b : Bool) : TyD G (.bl b) (.bi "bool")
  | int (i : Int) : TyD G (.int i) (.bi "int")
  | str (x : Str) : TyD G (.str x) (.bi "str")
  | tup (xs : List D) : TyD G (.tup xs) (.bi "tuple")
  | lst (xs : List D) : TyD G (.lst xs) (.bi "list")
  | ref {p : Addr} {xs : List D} : G p = some (.lst xs) → TyD G (.ref p) (.bi "list")
  | dict {p : Addr} {kvs : List (Key × D)} : G p = some (.dK kvs) → TyD G (.ref p) (.bi "dict")
def Kd.is (K : Frag) : Kd → Value → Prop
  | .bi T, t => t = .type T
  | .own c, t => ∃ C, gaddr K c = some C ∧ t = .ref C
theorem TyD.of {K H G d v k} (h : TyD G d k) (hR : RelH K H G) (p : Rp K H G d v) : ∃ t, TyX K H v t ∧ k.is K t := by
  cases h with
  | non => cases p; exact ⟨_, .base .non, rfl⟩
  | bl => cases p; exact ⟨_, .base (.bl _), rfl⟩
  | int => cases p; exact ⟨_, .base (.int _), rfl⟩
  | str => cases p; exact ⟨_, .base (.str _), rfl⟩
  | tup =>
    cases p with
    | tup f r =>
      rcases f with ⟨f, _⟩ | ⟨o, its, n, f1, f2, _⟩
      · exact ⟨_, .base (.tup f), rfl⟩
      · exact ⟨_, .kTuple f1 f2, rfl⟩
  | lst => cases p with | lst f g r => exact ⟨_, .base (.lst f), rfl⟩
  | ref e => cases p; obtain ⟨xs, f, _⟩ := hR _ _ e; exact ⟨_, .base (.lst f), rfl⟩
  | dict e => cases p; obtain ⟨xs, f, _⟩ := hR _ _ e; exact ⟨_, .base (.dK f), rfl⟩
/-- isinstance(x, T), T a built-in class -/
def kIsi : RCD := c2 fun x y G Q => ∃ k T b, TyD G x (.bi k) ∧ y = .ty T ∧ kitB k T = some b ∧ Q (.bl b) G
theorem cIsi : CallD X (.builtin "isinstance") kIsi := ⟨_, call_isi, fun xs H Q ds G QD hR hp ⟨x, y, e, k, T, b, ht, ey, hk, q⟩ hq => by
  subst e
  obtain ⟨v, w, rfl, p1, p2⟩ := rps2 hp
  subst ey; cases p2
  obtain ⟨t, h1, h2⟩ := ht.of hR p1
  obtain rfl : t = .type k := h2
  exact ⟨v, .ty T, _, _, b, rfl, .ty T, h1, kit_ty hk, hq.now hR (.bl _) q⟩⟩
/-- what isinstance asks of the class of an instance -/
structure ClsI (K : Frag) (C : Addr) : Prop where
  cl : Cls K C
  ha : PySem.W.findIn K (.ref C) "__class__" = some (some (.builtin "object.__class__"))
  hn : PySem.W.specialIn K (.builtin "object.__class__") "__get__" = some (some (.builtin "getset_descriptor.__get__"))
  ht : PySem.W.takesIn K (.builtin "object.__class__") = some true
  hm : PySem.W.mroIn K C (.type "object") = some true
/-- isinstance(x, C), C an own class: what the table says of x's kind -/
def kIsiO (bi : List (String × Bool)) (ow : List (Str × Bool)) (c : Str) : RCD := c2 fun x y G Q => y = .gv c ∧ ((∃ k b, TyD G x (.bi k) ∧ (k, b) ∈ bi ∧ Q (.bl b) G) ∨ ∃ c' ns ds b, InsD G x c' ns ds ∧ (c', b) ∈ ow ∧ Q (.bl b) G)
theorem cIsiO {bi : List (String × Bool)} {ow : List (Str × Bool)} {c : Str} {C : Addr} (hC : gaddr X.K c = some C) (hb : ∀ p ∈ bi, PySem.W.kitOne X.K (.type p.1) (.ref C) = some p.2) (ho : ∀ p ∈ ow, ∀ C', gaddr X.K p.1 = some C' → ClsI X.K C' ∧ PySem.W.kitOne X.K (.ref C') (.ref C) = some p.2) : CallD X (.builtin "isinstance") (kIsiO bi ow c) :=
  ⟨_, call_isi, fun xs H Q ds G QD hR hp ⟨x, y, e, ey, z⟩ hq => by
    subst e
    obtain ⟨v, w, rfl, p1, p2⟩ := rps2 hp
    subst ey
    cases p2 with
    | gv hg =>
      rw [hC] at hg; cases hg
      rcases z with ⟨k, b, ht, hm, q⟩ | ⟨c', ns, ds, b, hi, hm, q⟩
      · obtain ⟨t, h1, h2⟩ := ht.of hR p1
        obtain rfl : t = .type k := h2
        exact ⟨v, .ref C, _, _, b, rfl, .own C, h1, hb _ hm, hq.now hR (.bl _) q⟩
      · obtain ⟨a, C', dx, xs, e, h1, h2, h3, h4⟩ := hi.of hR p1
        subst e
        obtain ⟨k1, k2⟩ := ho _ hm C' h1
        exact ⟨.ref a, .ref C, _, _, b, rfl, .own C, .base (.ins h2 k1.cl k1.ha k1.hn k1.ht k1.hm), k2, hq.now hR (.bl _) q⟩⟩
end DL

namespace PySem
open Sem (wp)
section
variable {prog : Program} {w : World} {A : Around} {E : Value → Shared → Prop} {s : Shared}
/-- bool(x), by what the truth of x comes to -/
theorem dl_bool_new {x : Value} {R : Result → Shared → Prop} (h : wpAny (model prog w) A.in1 (truthy x) (fun b s' => R (.ok (.ret (.bool b))) s') (fun e s' => R (.error e) s') s) :
    wpAny (model prog w) A.in1 (Builtin.«bool.__new__» ⟨[.type "bool", x], []⟩) (fun fin s' => match fin with | .done f => R (.ok f) s' | .again c' => c'.quiet = true ∧ codeAny (model prog w) A c' R s') (fun e s' => R (.error e) s') s := by
  have f1 := F.conv_sub_bool
  refine wpAny_mono (Q := fun fin s' => ∃ v, fin = .done (.ret v) ∧ R (.ok (.ret v)) s') (E := fun e s' => R (.error e) s') ?_ (fun fin s' h' => by obtain ⟨v, rfl, hv⟩ := h'; exact hv) fun _ _ x => x
  repeat (any_goals (first | assumption | (with_reducible refine wpAny_mono h (fun b s' hb => ?_) fun _ _ z => z) | wp_step))
  all_goals first | exact ⟨_, rfl, hb⟩ | skip
theorem dl_call_bool {x : Value} {Q : Value → Shared → Prop} (h : wpAny (model prog w) A.in1.in1 (truthy x) (fun b s' => Q (.bool b) s') E s) : wpAny (model prog w) A (call (.type "bool") [x]) Q E s := by
  have ft := F.called_bool
  obtain ⟨c, tl, hmro⟩ := ft.mro
  have hmade := ft.made
  have hsub := ft.sub
  refine wpAny_call (codeAny_of_tree ?_)
  show wpAny _ _ (callAny (.type "bool") _) _ _ _
  refine wpAny_pure ⟨Code.quiet_builtin _ (by decide +kernel), codeAny_builtin F.entry_type_call ?_⟩
  rw [Around.under_plain (weight_type_call_type "bool" [x] []) (units_type_call_type "bool" [x] [])]
  have h1 := ft.notType
  have h2 := ft.canCreate
  repeat (any_goals (first | assumption | wp_step))
  refine codeAny_mono (codeAny_call_builtin ft.plain F.entry_bool_new (wpAny_of_eq (F.newCall_bool_1 x) (dl_bool_new (R := wants (fun obj s₁ => s₁.TypeIs obj "bool" ∧ Q obj s₁) E) (wpAny_mono h (fun b s' hb => ⟨by first | exact typeIs_bool _ _ | exact rfl | trivial, hb⟩) fun _ _ z => z)))) fun r s₁ hr => ?_
  cases r with
  | error e => exact hr
  | ok fl =>
    cases fl with
    | ret obj =>
      obtain ⟨hT, hq⟩ := hr
      have hli := ft.init.lookup
      have hbi := ft.init.bind obj
      have hom := object_init_meets (rest := [x]) (self := obj) ft.init.lookup ft.made F.newNe_bool
      repeat (any_goals (first | assumption | wp_step))
      refine codeAny_mono (codeAny_call_builtin ft.init.plain F.entry_object_init (ft.init.check _ _ _ _ _ _ _ _ hT (F.args_object_init_2 obj x) (hom prog w A.in1 (wants (fun r s₂ => r = .none ∧ Q obj s₂) E) s₁ ⟨hT, rfl, hq⟩))) fun r₂ s₂ hr₂ => ?_
      cases r₂ with
      | error e => exact hr₂
      | ok fl₂ =>
        cases fl₂ with
        | ret r =>
          obtain ⟨rfl, hq⟩ := hr₂
          repeat (any_goals (first | assumption | wp_step))
        | _ => exact hr₂.elim
    | _ => exact hr.elim
end
end PySem
namespace DL
open PySem PySem.Spec PyProof.Rows L2
open PySem.W (Frag)
section
variable {X : Cx} {k : Nat} {f C : Addr} {fd : FuncData} {ps : List Str} {sp : SpD}
/-- bool(o) -/
def kBoolO (c : Str) (sp : SpD) : RCD := c1 fun x G Q => ∃ ns ds, InsD G x c ns ds ∧ sp [x] G (fun v G1 => ∃ b, v = .bl b ∧ Q (.bl b) G1) (fun _ _ => False)
theorem cBoolO {c : Str} (hC : gaddr X.K c = some C) (hm : Meth X.K C "__bool__" f) (F : FnG X.prog X.w X.K X.mg X.base k f fd ps sp) (hg : X.A.guards = some []) (hr : Room (k + 2) X.A) (hb : Binds X.K fd ps []) : CallD X (.type "bool") (kBoolO c sp) :=
  ⟨fun xs H Q => ∃ a dx fs, xs = [.ref a] ∧ H a = some (.ins C dx fs) ∧ lsp X.K sp [.ref a] H (fun v H1 => ∃ b, v = .bl b ∧ Q (.bl b) H1) E0, fun pins s σ H xs us Q I r ⟨a, dx, fs, ex, ha, q⟩ => by
    subst ex
    obtain ⟨u, rfl, ru⟩ := vals1 r
    obtain rfl : u = Value.ref a := ru
    obtain ⟨m, fr⟩ := fr_of I
    obtain ⟨ox, od, J, _⟩ := inst_of I ha
    refine PySem.dl_call_bool (PySem.W.truthy_K fr I.ok.mod.kin J hm.at_ hm.fn (wpAny_mono (run_at F (guards_in1 (guards_in1 hg)) hr.in1.in1 I.env0.in1.in1 hb I (us := [.ref a]) (.cons (vref a) .nil) q) (fun r s' hr' => ?_) fun _ _ z => z))
    obtain ⟨w, H', J', rw', b, ew, q'⟩ := hr'
    subst ew
    obtain rfl : r = Value.bool b := rw'
    exact ⟨.bl b, H', J', rfl, q'⟩, fun xs H Q ds G QD hR hp ⟨x, e, ns, ds', hi, q⟩ hq => by
    subst e
    obtain ⟨v, rfl, px⟩ := rps1 hp
    obtain ⟨a, C', dx', xs', e1, h1, h2, h3, h4⟩ := hi.of hR px
    rw [hC] at h1; cases h1
    subst e1
    refine ⟨a, dx', _, rfl, h2, lsp0 hR (.cons px .nil) q fun v H' d G' s' r' p' ⟨n, e, z⟩ => ?_⟩
    subst e; cases p'
    exact ⟨n, rfl, hq _ _ _ _ s' r' (.bl _) z⟩⟩
end
end DL

namespace DL
open PySem PySem.Spec PyProof.Rows L2
open PySem.W (Frag)
theorem lk_here {f : Str} {ns : List Str} {d : D} {ds : List D} : lk f (f :: ns) (d :: ds) = some d := by simp [lk]
theorem lk_next {f n : Str} {ns : List Str} {d e : D} {ds : List D} (h : n ≠ f) (k : lk f ns ds = some e) : lk f (n :: ns) (d :: ds) = some e := by simp [lk, h, k]
theorem lk_nil {f : Str} {ds : List D} : lk f [] ds = none := by cases ds <;> rfl
theorem lk_not {f n : Str} {ns : List Str} {d : D} {ds : List D} (h : n ≠ f) (k : lk f ns ds = none) : lk f (n :: ns) (d :: ds) = none := by simp [lk, h, k]
/-! ### steps: own classes -/
section
variable {σ σ' : SD} {G : HH} {Q : QD} {E : ED} {d x y z : D} {ta tb to tv : TED} {t : TAD} {nx bk ct : SD → HH → Prop} {rt : QD} {ex : XD → SD → HH → Prop} {QT : Bool → HH → Prop} {p : Addr} {c f m : Str} {ns fns : List Str} {ds as : List D} {cs : List Str} {sp : SpD}
theorem st_raise (h : t σ G (fun ds G1 => ds.length = fns.length ∧ ex ⟨.own c, fns.reverse, ds.reverse⟩ σ G1) (fun x G' => ex x σ G')) : dRaise c fns t ⟨nx, rt, bk, ct, ex⟩ σ G := h
theorem st_raise1 {P : XD → Prop} {c f : Str} (h : P ⟨.own c, [f], [d]⟩) : [d].length = [f].length ∧ P ⟨.own c, [f].reverse, [d].reverse⟩ := ⟨rfl, h⟩
theorem st_raise2 {P : XD → Prop} {c f g : Str} {e : D} (h : P ⟨.own c, [g, f], [e, d]⟩) : [d, e].length = [f, g].length ∧ P ⟨.own c, [f, g].reverse, [d, e].reverse⟩ := ⟨rfl, h⟩
theorem st_fld (h : ta σ G (fun x G1 => ∃ c ns ds d, InsD G1 x c ns ds ∧ c ∈ cs ∧ lk f ns ds = some d ∧ Q d G1) E) : dFld cs f ta σ G Q E := h
theorem st_fldO {P : D → Prop} (hc : c ∈ cs) (hl : lk f ns ds = some d) (h : P d) : ∃ c' ns' ds' d', InsD G (.obj c ns ds) c' ns' ds' ∧ c' ∈ cs ∧ lk f ns' ds' = some d' ∧ P d' := ⟨c, ns, ds, d, .obj c ns ds, hc, hl, h⟩
theorem st_fldR {P : D → Prop} (hp : G p = some (.ins c ns ds)) (hc : c ∈ cs) (hl : lk f ns ds = some d) (h : P d) : ∃ c' ns' ds' d', InsD G (.ref p) c' ns' ds' ∧ c' ∈ cs ∧ lk f ns' ds' = some d' ∧ P d' := ⟨c, ns, ds, d, .ref hp, hc, hl, h⟩
theorem st_setF (h : tv σ G (fun y G1 => to σ G1 (fun x G2 => ∃ p c ns ds, x = .ref p ∧ G2 p = some (.ins c ns ds) ∧ c ∈ cs ∧ ns.length < 1000 ∧ nx σ (gput G2 p (.ins c (stF f y ns ds).1 (stF f y ns ds).2))) (fun x G' => ex x σ G')) (fun x G' => ex x σ G')) : dSetF cs f to tv ⟨nx, rt, bk, ct, ex⟩ σ G := h
theorem st_setFq {P : HH → Prop} (hp : G p = some (.ins c ns ds)) (hc : c ∈ cs) (hn : ns.length < 1000) (h : P (gput G p (.ins c (stF f y ns ds).1 (stF f y ns ds).2))) : ∃ p' c' ns' ds', D.ref p = .ref p' ∧ G p' = some (.ins c' ns' ds') ∧ c' ∈ cs ∧ ns'.length < 1000 ∧ P (gput G p' (.ins c' (stF f y ns' ds').1 (stF f y ns' ds').2)) := ⟨p, c, ns, ds, rfl, hp, hc, hn, h⟩
theorem st_make {fr : Bool} (h : t σ G (fun ds G1 => ∀ p, G1 p = none → sp (.ref p :: ds) (gput G1 p (.ins c [] [])) (fun v G2 => v = .non ∧ if fr = true then ∃ ns vs, G2 p = some (.ins c ns vs) ∧ Q (.obj c ns vs) (gdel G2 p) else Q (.ref p) G2) E) E) : dMake fr c sp t σ G Q E := h
theorem st_meth (h : ta σ G (fun x G1 => ∃ ns ds, InsD G1 x c ns ds ∧ lk m ns ds = none ∧ t σ G1 (fun as G2 => sp (x :: as) G2 Q E) E) E) : dMeth c m sp ta t σ G Q E := h
theorem st_methO {P : D → Prop} (hl : lk m ns ds = none) (h : P (.obj c ns ds)) : ∃ ns' ds', InsD G (.obj c ns ds) c ns' ds' ∧ lk m ns' ds' = none ∧ P (.obj c ns ds) := ⟨ns, ds, .obj c ns ds, hl, h⟩
theorem st_prop (h : ta σ G (fun x G1 => ∃ ns ds, InsD G1 x c ns ds ∧ sp [x] G1 Q (fun _ _ => False)) E) : dProp c sp ta σ G Q E := h
theorem st_insO {P : Prop} (h : P) : ∃ ns' ds', InsD G (.obj c ns ds) c ns' ds' ∧ P := ⟨ns, ds, .obj c ns ds, h⟩
theorem st_truO (h : ta σ G (fun x G1 => ∃ ns ds, InsD G1 x c ns ds ∧ sp [x] G1 (fun v G2 => ∃ b, v = .bl b ∧ QT b G2) (fun _ _ => False)) E) : dTruO c sp ta σ G QT E := h
theorem st_inO {neg : Bool} (h : sp [.obj c ns ds, x] G (fun v G1 => ∃ b, v = .bl b ∧ Q (.bl (if neg then !b else b)) G1) (fun _ _ => False)) : rInO neg c sp x (.obj c ns ds) G Q := ⟨ns, ds, .obj c ns ds, h⟩
theorem st_lenO (h : sp [.obj c ns ds] G (fun v G1 => ∃ n : Int, v = .int n ∧ 0 ≤ n ∧ n < 2 ^ 63 ∧ Q (.int n) G1) (fun _ _ => False)) : kLenO c sp [.obj c ns ds] G Q := ⟨_, rfl, ns, ds, .obj c ns ds, h⟩
theorem st_reprO (h : sp [.obj c ns ds] G (fun v G1 => ∃ z, v = .str z ∧ Q (.str z) G1) (fun _ _ => False)) : kReprO c sp [.obj c ns ds] G Q := ⟨_, rfl, ns, ds, .obj c ns ds, h⟩
theorem st_boolO (h : sp [.obj c ns ds] G (fun v G1 => ∃ b, v = .bl b ∧ Q (.bl b) G1) (fun _ _ => False)) : kBoolO c sp [.obj c ns ds] G Q := ⟨_, rfl, ns, ds, .obj c ns ds, h⟩
theorem st_opO (h : ta σ G (fun x G1 => tb σ G1 (fun y G2 => ∃ ns ds ns' ds', InsD G2 x c ns ds ∧ InsD G2 y c ns' ds' ∧ sp [x, y] G2 Q E) E) E) : dOpO c sp ta tb σ G Q E := h
theorem st_opOq {P : Prop} {ns2 : List Str} {ds2 : List D} (h : P) : ∃ n1 d1 n2 d2, InsD G (.obj c ns ds) c n1 d1 ∧ InsD G (.obj c ns2 ds2) c n2 d2 ∧ P := ⟨ns, ds, ns2, ds2, .obj c ns ds, .obj c ns2 ds2, h⟩
theorem st_isi {k T : String} {b : Bool} (ht : TyD G x (.bi k)) (hk : kitB k T = some b) (h : Q (.bl b) G) : kIsi [x, .ty T] G Q := ⟨_, _, rfl, k, T, b, ht, rfl, hk, h⟩
theorem st_fstr {ts : List TED} (h : dJs ts Str.empty σ G (fun z G1 => Q (.str z) G1) E) : dFStr ts σ G Q E := h
theorem st_js {ts : List TED} {acc : Str} {QS : Str → HH → Prop} (h : ta σ G (fun x G1 => ∃ y, x = .str y ∧ (acc ++ y).length ≤ sizeLine ∧ dJs ts (acc ++ y) σ G1 QS E) E) : dJs (ta :: ts) acc σ G QS E := h
theorem st_jsq {acc w : Str} {P : Str → Prop} (hl : (acc ++ w).length ≤ sizeLine) (h : P w) : ∃ y, D.str w = .str y ∧ (acc ++ y).length ≤ sizeLine ∧ P y := ⟨w, rfl, hl, h⟩
theorem st_jsn {acc : Str} {QS : Str → HH → Prop} (h : QS acc G) : dJs [] acc σ G QS E := h
theorem st_fmt (h : ta σ G (fun x G1 => (∃ y : Str, x = .str y ∧ y.length ≤ sizeLine ∧ Q (.str y) G1) ∨ ∃ i : Int, x = .int i ∧ i.natAbs.log2 < 1920 ∧ Q (.str (toString i)) G1) E) : dFmt ta σ G Q E := h
theorem st_fmtS {P : Prop} {a : Str} {R : Str → HH → Prop} (hl : a.length ≤ sizeLine) (h : R a G) : (∃ y : Str, D.str a = .str y ∧ y.length ≤ sizeLine ∧ R y G) ∨ ∃ i : Int, D.str a = .int i ∧ i.natAbs.log2 < 1920 ∧ R (toString i) G := .inl ⟨a, rfl, hl, h⟩
end
end DL

namespace DL
open PySem PySem.Spec PyProof.Rows L2
open PySem.W (Frag)
/-! ### a def's walk, in short -/
/-- the promise sp is kept by the body's reading t -/
abbrev VC (sp : SpD) (N : List Str) (t : TSD) : Prop := ∀ ds G Q EX, sp ds G Q EX → t { nx := fun _ G' => Q .non G', rt := Q, ex := fun x _ G' => EX x G' } (startD N ds) G
abbrev LN (sp : SpD) (n : Nat) : Prop := ∀ ds G Q E, sp ds G Q E → ds.length = n
/-- an expression gives d, whatever follows -/
def EvE (t : TED) (σ : SD) (G : HH) (d : D) : Prop := ∀ (Q : QD) (E : ED), Q d G → t σ G Q E
def EvT (t : TTD) (σ : SD) (G : HH) (b : Bool) : Prop := ∀ (Q : Bool → HH → Prop) (E : ED), Q b G → t σ G Q E
section
variable {σ : SD} {G : HH} {Q : QD} {QT : Bool → HH → Prop} {E : ED} {ta tb : TED} {tA tB : TTD} {a b : Bool}
theorem st_andE (ha : EvT tA σ G a) (hb : a = true → EvT tB σ G b) (h : QT (a && b) G) : dAnd tA tB σ G QT E := by
  refine ha _ _ ?_
  cases a
  · rw [if_neg Bool.false_ne_true]; exact h
  · rw [if_pos rfl]; exact hb rfl _ _ (by simpa using h)
theorem st_orE (ha : EvT tA σ G a) (hb : a = false → EvT tB σ G b) (h : QT (a || b) G) : dOr tA tB σ G QT E := by
  refine ha _ _ ?_
  cases a
  · rw [if_neg Bool.false_ne_true]; exact hb rfl _ _ (by simpa using h)
  · rw [if_pos rfl]; exact h
theorem st_andVE (ha : EvE ta σ G (.bl a)) (hb : a = true → EvE tb σ G (.bl b)) (h : Q (.bl (a && b)) G) : dAndV ta tb σ G Q E := by
  refine ha _ _ ⟨a, rfl, ?_⟩
  cases a
  · rw [if_neg Bool.false_ne_true]; exact h
  · rw [if_pos rfl]; exact hb rfl _ _ (by simpa using h)
theorem st_orVE (ha : EvE ta σ G (.bl a)) (hb : a = false → EvE tb σ G (.bl b)) (h : Q (.bl (a || b)) G) : dOrV ta tb σ G Q E := by
  refine ha _ _ ⟨a, rfl, ?_⟩
  cases a
  · rw [if_neg Bool.false_ne_true]; exact hb rfl _ _ (by simpa using h)
  · rw [if_pos rfl]; exact h
/-- x if c else y, of one kind -/
theorem st_ifE {c : Bool} {α : Type} (k : α → D) {x y : α} (hc : EvT tA σ G c) (ha : c = true → EvE ta σ G (k x)) (hb : c = false → EvE tb σ G (k y)) (h : Q (k (if c = true then x else y)) G) : dIf tA ta tb σ G Q E := by
  refine hc _ _ ?_
  cases c
  · rw [if_neg Bool.false_ne_true] at h ⊢; exact hb rfl _ _ h
  · rw [if_pos rfl] at h ⊢; exact ha rfl _ _ h
end
/-! ### slots that a loop changes -/
def setL : SD → List Nat → List (Option D) → SD
  | σ, k :: ks, v :: vs => setL (σ.set k v) ks vs
  | σ, _, _ => σ
def getL (σ : SD) (ks : List Nat) : List (Option D) := ks.map fun k => (σ[k]?).getD none
theorem fin_set {σ σ2 : SD} {ks : List Nat} {I : List (Option D) → Prop} (h : σ2 = setL σ ks (getL σ2 ks)) (hI : I (getL σ2 ks)) : ∃ vs, σ2 = setL σ ks vs ∧ I vs := ⟨_, h, hI⟩
section
variable {σ : SD} {G : HH} {g : TGD} {tb : TSD} {nx bk ct : SD → HH → Prop} {rt : QD} {ex : XD → SD → HH → Prop} {ok : HH → Prop} {tA : TTD}
theorem for_set {α : Type} {xs : List α} {c : α → D} (ks : List Nat) (Iv : List α → List (Option D) → HH → Prop) (hok : ∀ pre vs G', Iv pre vs G' → ok G') (h0 : σ = setL σ ks (getL σ ks)) (h1 : Iv [] (getL σ ks) G)
    (hs : ∀ pre a post vs G', xs = pre ++ a :: post → Iv pre vs G' → g (c a) (setL σ ks vs) G' (fun σ2 G2 => tb ⟨fun σ3 G3 => ∃ vs', σ3 = setL σ ks vs' ∧ Iv (pre ++ [a]) vs' G3, rt, nx, fun σ3 G3 => ∃ vs', σ3 = setL σ ks vs' ∧ Iv (pre ++ [a]) vs' G3, ex⟩ σ2 G2))
    (he : ∀ vs G', Iv xs vs G' → nx (setL σ ks vs) G') : ForG (xs.map c) ok g tb nx rt ex σ G := by
  refine for_map (fun pre σ3 G3 => ∃ vs', σ3 = setL σ ks vs' ∧ Iv pre vs' G3) (fun pre σ3 G3 ⟨vs, _, h⟩ => hok pre vs G3 h) ⟨_, h0, h1⟩ (fun pre a post σ3 G3 e ⟨vs, e2, h⟩ => ?_) (fun σ3 G3 ⟨vs, e2, h⟩ => ?_)
  · subst e2; exact hs pre a post vs G3 e h
  · subst e2; exact he vs G3 h
theorem for_rng_set {n : Nat} (ks : List Nat) (Iv : Nat → List (Option D) → HH → Prop) (h0 : σ = setL σ ks (getL σ ks)) (h1 : Iv 0 (getL σ ks) G)
    (hs : ∀ (i : Nat) vs G', i < n → Iv i vs G' → g (.int (i : Int)) (setL σ ks vs) G' (fun σ2 G2 => tb ⟨fun σ3 G3 => ∃ vs', σ3 = setL σ ks vs' ∧ Iv (i + 1) vs' G3, rt, nx, fun σ3 G3 => ∃ vs', σ3 = setL σ ks vs' ∧ Iv (i + 1) vs' G3, ex⟩ σ2 G2))
    (he : ∀ vs G', Iv n vs G' → nx (setL σ ks vs) G') : ForG (rgItems 0 n) okT g tb nx rt ex σ G := by
  refine for_rng0 (fun i σ3 G3 => ∃ vs', σ3 = setL σ ks vs' ∧ Iv i vs' G3) ⟨_, h0, h1⟩ (fun i σ3 G3 hi ⟨vs, e2, h⟩ => ?_) (fun σ3 G3 ⟨vs, e2, h⟩ => ?_)
  · subst e2; exact hs i vs G3 hi h
  · subst e2; exact he vs G3 h
theorem for_rngL_set {lo : Int} {n : Nat} (ks : List Nat) (Iv : Nat → List (Option D) → HH → Prop) (h0 : σ = setL σ ks (getL σ ks)) (h1 : Iv 0 (getL σ ks) G)
    (hs : ∀ (i : Nat) vs G', i < n → Iv i vs G' → g (.int (lo + (i : Int))) (setL σ ks vs) G' (fun σ2 G2 => tb ⟨fun σ3 G3 => ∃ vs', σ3 = setL σ ks vs' ∧ Iv (i + 1) vs' G3, rt, nx, fun σ3 G3 => ∃ vs', σ3 = setL σ ks vs' ∧ Iv (i + 1) vs' G3, ex⟩ σ2 G2))
    (he : ∀ vs G', Iv n vs G' → nx (setL σ ks vs) G') : ForG (rgItems lo n) okT g tb nx rt ex σ G := by
  refine for_rng (fun i σ3 G3 => ∃ vs', σ3 = setL σ ks vs' ∧ Iv i vs' G3) ⟨_, h0, h1⟩ (fun i σ3 G3 hi ⟨vs, e2, h⟩ => ?_) (fun σ3 G3 ⟨vs, e2, h⟩ => ?_)
  · subst e2; exact hs i vs G3 hi h
  · subst e2; exact he vs G3 h
/-- while, by an invariant with its own measure -/
theorem while_set (ks : List Nat) (Iv : Nat → List (Option D) → HH → Prop) (m0 : Nat) (h0 : σ = setL σ ks (getL σ ks)) (h1 : Iv m0 (getL σ ks) G)
    (hs : ∀ (m : Nat) vs G' (nx' : SD → HH → Prop), Iv m vs G' → (∀ m' vs' G2, m' < m → Iv m' vs' G2 → nx' (setL σ ks vs') G2) → tA (setL σ ks vs) G' (fun b G1 => if b = true then tb ⟨nx', rt, nx, nx', ex⟩ (setL σ ks vs) G1 else nx (setL σ ks vs) G1) (fun x G1 => ex x (setL σ ks vs) G1)) :
    dWhile tA tb ⟨nx, rt, bk, ct, ex⟩ σ G := by
  refine st_whileN (fun m σ3 G3 => ∃ vs', σ3 = setL σ ks vs' ∧ Iv m vs' G3) m0 ⟨_, h0, h1⟩ fun m σ3 G3 nx' ⟨vs, e, h⟩ hn => ?_
  subst e
  exact hs m vs G3 nx' h fun m' vs' G2 hm' h' => hn m' _ G2 hm' ⟨vs', rfl, h'⟩
/-- as one may end a turn: the slots as they stand -/
theorem while_go {σ2 : SD} {ks : List Nat} {m m' : Nat} {Iv : Nat → List (Option D) → HH → Prop} {nx' : SD → HH → Prop} (hn : ∀ m' vs' G2, m' < m → Iv m' vs' G2 → nx' (setL σ ks vs') G2) (h : σ2 = setL σ ks (getL σ2 ks)) (hm : m' < m) (hI : Iv m' (getL σ2 ks) G) : nx' σ2 G := by
  rw [h]; exact hn m' _ G hm hI
end
/-! ### comprehensions whose parts are found by themselves -/
section
variable {σ : SD} {G : HH} {Q : QD} {ok : HH → Prop} {g : Tgt} {tt : TTD} {te : TED} {vs : List Nat}
theorem lc_ev {α : Type} {xs : List α} {c : α → D} {k : α → Bool} {f : α → D} (hok : ∀ p acc, G p = none → ok (gput G p (.lst acc))) (hl : xs.length ≤ sizeLine)
    (hs : ∀ a, a ∈ xs → ∀ p acc, G p = none → ∃ σ2, g.put (c a) (wipeD σ vs) = some σ2 ∧ EvT tt σ2 (gput G p (.lst acc)) (k a) ∧ (k a = true → EvE te σ2 (gput G p (.lst acc)) (f a)))
    (hq : Q (.lst ((xs.filter k).map f)) G) : LcG true (xs.map c) ok g tt te vs σ G Q := by
  refine lc_pure k f hok hl (fun a ha p acc hp => ?_) (fun a ha hk p acc hp σ2 e2 Q' q => ?_) hq
  · obtain ⟨σ2, h1, h2, _⟩ := hs a ha p acc hp
    exact ⟨σ2, h1, fun QT q => h2 QT _ q⟩
  · obtain ⟨σ3, h1, _, h3⟩ := hs a ha p acc hp
    rw [e2] at h1; cases h1
    exact h3 hk Q' _ q
theorem lc_evY {α : Type} {xs : List α} {c : α → D} {f : α → D} (hok : ∀ p acc, G p = none → ok (gput G p (.lst acc))) (hl : xs.length ≤ sizeLine)
    (hs : ∀ a, a ∈ xs → ∀ p acc, G p = none → ∃ σ2, g.put (c a) (wipeD σ vs) = some σ2 ∧ EvE te σ2 (gput G p (.lst acc)) (f a))
    (hq : Q (.lst (xs.map f)) G) : LcG true (xs.map c) ok g dYes te vs σ G Q :=
  lc_map f hok hl (fun a ha p acc hp => (hs a ha p acc hp).imp fun σ2 h => ⟨h.1, fun Q' q => h.2 Q' _ q⟩) hq
/-- .. with a constructor told: the f that comes is k of something -/
theorem lc_evK {α β : Type} {xs : List α} {c : α → D} {k : α → Bool} (kf : β → D) {f : α → β} (hok : ∀ p acc, G p = none → ok (gput G p (.lst acc))) (hl : xs.length ≤ sizeLine)
    (hs : ∀ a, a ∈ xs → ∀ p acc, G p = none → ∃ σ2, g.put (c a) (wipeD σ vs) = some σ2 ∧ EvT tt σ2 (gput G p (.lst acc)) (k a) ∧ (k a = true → EvE te σ2 (gput G p (.lst acc)) (kf (f a))))
    (hq : Q (.lst (((xs.filter k).map f).map kf)) G) : LcG true (xs.map c) ok g tt te vs σ G Q :=
  lc_ev (f := fun a => kf (f a)) hok hl hs (by rw [List.map_map] at hq; exact hq)
theorem lc_evYK {α β : Type} {xs : List α} {c : α → D} (kf : β → D) {f : α → β} (hok : ∀ p acc, G p = none → ok (gput G p (.lst acc))) (hl : xs.length ≤ sizeLine)
    (hs : ∀ a, a ∈ xs → ∀ p acc, G p = none → ∃ σ2, g.put (c a) (wipeD σ vs) = some σ2 ∧ EvE te σ2 (gput G p (.lst acc)) (kf (f a)))
    (hq : Q (.lst ((xs.map f).map kf)) G) : LcG true (xs.map c) ok g dYes te vs σ G Q :=
  lc_evY (f := fun a => kf (f a)) hok hl hs (by rw [List.map_map] at hq; exact hq)
end
section
variable {p : Addr} {G G' : HH} {q : Addr} {o : HOD}
theorem But.at (b : But p G G') (h : q ≠ p) (e : G q = some o) : G' q = some o := (b q h).trans e
theorem But.atN (b : But p G G') (h : q ≠ p) (e : G q = none) : G' q = none := (b q h).trans e
end
end DL

namespace DL
open PySem PySem.Spec PyProof.Rows L2
open PySem.W (Frag)
/-! ### what is walked, by its value: a tuple, a list, a text -/
/-- what iter(..) of a value comes to -/
def ItV (X : Cx) (tg : Expr) (r : V → Hp → (It → Hp → Prop) → Prop) : Prop :=
  ∀ (pins : List (Addr × Obj)) (σ : L2.St) (R : It → Hp → Prop) (x : V) (v : Value) (H1 : Hp) (s1 : Shared), Inv X pins σ H1 s1 → RelV x v → r x H1 R → wpAny (model X.prog X.w) X.A (pyIter v) (PIE X pins σ tg R) X.xe s1
theorem pi_itv {X : Cx} {tg e : Expr} {te : TE} {r : V → Hp → (It → Hp → Prop) → Prop} (he : PE X e te) (i : ItV X tg r) : PI X tg e (fun σ H R => te σ H fun x H1 => r x H1 R) :=
  ⟨fun pins s σ H R I h => thn (he.run pins s σ H _ I h) fun v s1 ⟨x, H1, I1, r1, q1⟩ => i pins σ R x v H1 s1 I1 r1 q1⟩
theorem ItV.or {X : Cx} {tg : Expr} {r r' : V → Hp → (It → Hp → Prop) → Prop} (a : ItV X tg r) (b : ItV X tg r') : ItV X tg (fun x H R => r x H R ∨ r' x H R) :=
  fun pins σ R x v H1 s1 I q h => h.elim (a pins σ R x v H1 s1 I q) (b pins σ R x v H1 s1 I q)
/-- any rule for an expression serves for its value -/
theorem itv_of {X : Cx} {tg : Expr} {r : V → Hp → (It → Hp → Prop) → Prop} (h : ∀ (x : V) (v : Value) (pins : List (Addr × Obj)) (σ : L2.St) (R : It → Hp → Prop) (H1 : Hp) (s1 : Shared), Inv X pins σ H1 s1 → RelV x v → r x H1 R →
    wpAny (model X.prog X.w) X.A (pyIter v) (PIE X pins σ tg R) X.xe s1) : ItV X tg r := fun pins σ R x v H1 s1 I q z => h x v pins σ R H1 s1 I q z
theorem fp_one {X : Cx} {pins : List (Addr × Obj)} {H : Hp} {a : Addr} (h : FpOk X pins H a) : ∀ b ∈ [a], FpOk X pins H b := fun b hb => by rw [List.mem_singleton.mp hb]; exact h
theorem itv_list {X : Cx} {tg : Expr} : ItV X tg (fun x H R => ∃ a, x = .ref a ∧ (∃ xs, SqL X.K H a xs) ∧ R (Itl X.K a) H) := by
  rintro pins σ R x v H1 s1 I r1 ⟨a, rfl, ⟨xs, hq⟩, q⟩
  cases r1
  obtain ⟨its, rv, p, hz⟩ := I.list hq
  refine wpAny_pyIter_list p.isList ⟨s1.heap.objs.size, [_], fun i h => h.IsListIter s1.heap.objs.size a i, Itl X.K a, H1, rfl, ?_, turn_list a _, ?_, fp_one (I.fpOk (Nat.le_refl _) (I.hok.fresh (Nat.le_refl _))), q⟩
  · exact Inv.kept (t' := s1.toks) I fun b o e => Heap.get?_push_of_some _ e
  · exact ⟨_, Heap.get?_push_size _ rfl, rfl, rfl⟩
theorem itv_tup {X : Cx} {tg : Expr} : ItV X tg (fun x H R => ∃ a, x = .ref a ∧ (∃ xs, SqT X.K H a xs) ∧ R (Itt X.K a) H) := by
  rintro pins σ R x v H1 s1 I r1 ⟨a, rfl, ⟨xs, hq⟩, q⟩
  cases r1
  obtain ⟨its, rv, p, hz⟩ := I.tuple hq
  refine wpAny_pyIter_tuple (items := its.toArray) p ⟨s1.heap.objs.size, [_], fun i h => h.IsTupleIter s1.heap.objs.size a i, Itt X.K a, H1, rfl, ?_, turn_tuple a _, ?_, fp_one (I.fpOk (Nat.le_refl _) (I.hok.fresh (Nat.le_refl _))), q⟩
  · exact Inv.kept (t' := s1.toks) I fun b o e => Heap.get?_push_of_some _ e
  · exact ⟨_, Heap.get?_push_size _ rfl, rfl, rfl⟩
theorem itv_str {X : Cx} {tg : Expr} : ItV X tg (fun v H R => ∃ x, v = .str x ∧ R (Its x) H) := by
  rintro pins σ R x v H1 s1 I r1 ⟨z, rfl, q⟩
  obtain ⟨t, rfl⟩ := r1
  cases ha : z.cps.all (· < 128) with
  | false => exact wpAny_pyIter_wide ha (pi_one (tk := s1.toks) I _ (turn_str _ z t "str_iterator" (.inr rfl)) ⟨_, Heap.get?_push_size _ rfl, rfl, rfl⟩ q)
  | true => exact wpAny_pyIter_ascii ha (pi_one (tk := s1.toks) I _ (turn_str _ z t "str_ascii_iterator" (.inl rfl)) ⟨_, Heap.get?_push_size _ rfl, rfl, rfl⟩ q)
/-- the signs of a text -/
def chrs (z : Str) : List D := z.cps.toList.map fun c => D.str ⟨#[c]⟩
/-- data that is walked: its items, and what must stay meanwhile -/
def SqI (x : D) (G : HH) (R : List D → (HH → Prop) → HH → Prop) : Prop := (∃ xs, x = .tup xs ∧ R xs okT G) ∨ (∃ xs, LsW G x xs ∧ R xs (okL x xs) G) ∨ ∃ z, x = .str z ∧ R (chrs z) okT G
def iSqD (ta : TED) : TID := fun σ G R E => ta σ G (fun x G1 => SqI x G1 R) E
section
variable {X : Cx} {W : WX} {tg a : Expr} {ta : TED}
theorem di_sq (ha : DE X W a ta) : DI X W tg a (iSqD ta) := PI.imp (pi_itv ha (itv_tup.or (itv_list.or itv_str))) fun σ H R ⟨σD, G, RD, E, hR, hS, q, hr, he⟩ =>
  ⟨σD, G, _, E, hR, hS, q, fun v H1 d G1 s r p z => by
    rcases z with ⟨xs, rfl, z⟩ | ⟨xs, ls, z⟩ | ⟨x, rfl, z⟩
    · cases p with
      | @tup a vs _ f rr =>
        refine Or.inl ⟨a, rfl, ⟨_, f.sq⟩, hr _ _ _ _ _ s r (fun i H2 G2 s2 r2 _ => ⟨fun d hd => ?_, fun hl => ⟨_, (f.mono s2).sq, by rw [← rr.length]; exact hl⟩⟩) z⟩
        obtain ⟨y, hx, px⟩ := (rr.mono s2).get hd
        refine ⟨⟨_, y, (f.mono s2).sq, hx⟩, fun u H3 ⟨e3, hy⟩ => ?_⟩
        have t := hy _ (f.mono s2).sq
        rw [hx] at t
        cases t
        subst e3
        exact ⟨Stp.refl, r2, px⟩
    · obtain ⟨b, vs, rfl, h1, rr⟩ := ls.of r p
      refine Or.inr (Or.inl ⟨b, rfl, ⟨_, h1⟩, hr _ _ _ _ _ s r (fun i H2 G2 s2 r2 ok2 => ?_) z⟩)
      obtain ⟨c, us, e2, h2, r3⟩ := LsW.of ok2 r2 (p.mono s2)
      cases e2
      refine ⟨fun d hd => ?_, fun hl => ⟨_, h2, by rw [← r3.length]; exact hl⟩⟩
      obtain ⟨y, hx, px⟩ := r3.get hd
      refine ⟨⟨_, y, h2, hx⟩, fun u H3 ⟨e3, hy⟩ => ?_⟩
      have t := hy _ h2
      rw [hx] at t
      cases t
      subst e3
      exact ⟨Stp.refl, r2, px⟩
    · cases p
      refine Or.inr (Or.inr ⟨x, rfl, hr _ _ _ _ _ s r (fun i H2 G2 s2 r2 _ => ⟨fun d hd => ?_, fun hl => ?_⟩) z⟩)
      · unfold chrs at hd
        rw [List.getElem?_map, Array.getElem?_toList] at hd
        cases e : x.cps[i]? with
        | none => rw [e] at hd; cases hd
        | some c =>
          rw [e] at hd
          cases hd
          refine ⟨(Array.getElem?_eq_some_iff.mp e).1, fun u H3 ⟨e3, c', ec, eu⟩ => ?_⟩
          rw [e] at ec
          cases ec
          subst e3; subst eu
          exact ⟨Stp.refl, r2, .str _⟩
      · unfold chrs at hl
        show x.cps.size ≤ i
        simpa using hl, he⟩
end
section
variable {σ : SD} {G : HH} {E : ED} {ta : TED} {R : List D → (HH → Prop) → HH → Prop}
theorem st_iSq (h : ta σ G (fun x G1 => SqI x G1 R) E) : iSqD ta σ G R E := h
theorem st_sqT {xs : List D} (h : R xs okT G) : SqI (.tup xs) G R := .inl ⟨xs, rfl, h⟩
theorem st_sqL {x : D} {xs : List D} (hl : LsW G x xs) (h : R xs (okL x xs) G) : SqI x G R := .inr (.inl ⟨xs, hl, h⟩)
theorem st_sqS {z : Str} (h : R (chrs z) okT G) : SqI (.str z) G R := .inr (.inr ⟨z, rfl, h⟩)
end
section
variable {σ : SD} {G : HH} {Q : QD} {ok : HH → Prop} {g : Tgt} {tt : TTD} {te : TED} {vs : List Nat} {fr : Bool} {gg : TGD} {tb : TSD} {nx : SD → HH → Prop} {rt : QD} {ex : XD → SD → HH → Prop}
theorem lc_mark {items : List D} (h : LcG fr items ok g tt te vs σ G Q) : LcG fr items ok g tt te vs σ G Q := h
/-- the items told by a list -/
theorem lc_of {α : Type} {items : List D} (xs : List α) (c : α → D) (e : items = xs.map c) (h : LcG fr (xs.map c) ok g tt te vs σ G Q) : LcG fr items ok g tt te vs σ G Q := by rw [e]; exact h
theorem for_of {α : Type} {items : List D} (xs : List α) (c : α → D) (e : items = xs.map c) (h : ForG (xs.map c) ok gg tb nx rt ex σ G) : ForG items ok gg tb nx rt ex σ G := by rw [e]; exact h
theorem rg_map (n : Nat) : rgItems 0 n = (List.range n).map fun i : Nat => D.int (i : Int) := by
  unfold rgItems
  exact List.map_congr_left fun a _ => by rw [Int.zero_add]
theorem lc_rg {n : Nat} (h : LcG fr ((List.range n).map fun i : Nat => D.int (i : Int)) ok g tt te vs σ G Q) : LcG fr (rgItems 0 n) ok g tt te vs σ G Q := by rw [rg_map]; exact h
end
end DL

namespace DL
open PySem PySem.Spec PyProof.Rows L2
open PySem.W (Frag)
/-! ### lists told by lists -/
section
variable {G : HH} {Q : QD} {α : Type} {c : α → D}
theorem st_addLm {a b : List α} (hl : a.length + b.length ≤ sizeLine) (h : Q (.lst ((a ++ b).map c)) G) : aAny (.lst (a.map c)) (.lst (b.map c)) G Q :=
  st_addL (.lst _) (.lst _) (by rw [List.length_map, List.length_map]; exact hl) (by rw [← List.map_append]; exact h)
theorem st_addTm {a b : List α} (hl : a.length + b.length ≤ sizeLine) (h : Q (.tup ((a ++ b).map c)) G) : aAny (.tup (a.map c)) (.tup (b.map c)) G Q :=
  st_addT (by rw [List.length_map, List.length_map]; exact hl) (by rw [← List.map_append]; exact h)
theorem rep_one {d : D} : ∀ n : Nat, (List.replicate n [d]).flatten = List.replicate n d
  | 0 => rfl
  | n + 1 => by rw [List.replicate_succ, List.flatten_cons, rep_one n, List.replicate_succ]; rfl
theorem map_rep {a : α} : ∀ n : Nat, List.replicate n (c a) = (List.replicate n a).map c := fun n => by rw [List.map_replicate]
/-- [x] * k -/
theorem st_mul1 {a : α} {k : Int} (hk : -(2 ^ 63) ≤ k ∧ k < 2 ^ 63) (hl : k.toNat ≤ sizeLine) (h : Q (.lst ((List.replicate k.toNat a).map c)) G) : mAny (.lst [c a]) (.int k) G Q :=
  st_mulL (.lst _) hk (by simpa using hl) (by rw [rep_one, map_rep]; exact h)
/-- [x] * int(b) -/
theorem st_mulB {a : α} {b : Bool} (h : Q (.lst ((if b = true then [a] else []).map c)) G) : mAny (.lst [c a]) (.int (if b = true then 1 else 0)) G Q := by
  cases b
  · exact st_mul1 ⟨by decide, by decide⟩ (by rw [sizeLine_eq]; decide) h
  · exact st_mul1 ⟨by decide, by decide⟩ (by rw [sizeLine_eq]; decide) h
end
/-! ### data, its == and its repr -/
mutual
/-- data of depth n at most -/
def gd : Nat → D → Prop
  | _, .non => True
  | _, .bl _ => True
  | _, .int _ => True
  | _, .str x => PyData.strOk x = true
  | n + 1, .tup xs => gds n xs
  | n + 1, .lst xs => gds n xs
  | n + 1, .wls xs => gds n xs
  | _, _ => False
def gds : Nat → List D → Prop
  | _, [] => True
  | n, x :: xs => gd n x ∧ gds n xs
end
mutual
def D.pyd : D → PyData
  | .non => .none
  | .bl b => .bool b
  | .int i => .int i
  | .str x => .str x
  | .tup xs => .tuple (pyds xs)
  | .lst xs => .list (pyds xs)
  | .wls xs => .list (pyds xs)
  | _ => .none
def pyds : List D → List PyData
  | [] => []
  | x :: xs => x.pyd :: pyds xs
end
mutual
theorem gd_py : ∀ (n : Nat) (d : D), gd n d → d.py = some d.pyd ∧ d.pyd.canLay0 = true ∧ d.pyd.depth ≤ n
  | n, .non, _ => by simp [D.py, D.pyd, PyData.canLay0, PyData.depth]
  | n, .bl b, _ => by simp [D.py, D.pyd, PyData.canLay0, PyData.depth]
  | n, .int b, _ => by simp [D.py, D.pyd, PyData.canLay0, PyData.depth]
  | n, .str x, h => by
    have h : PyData.strOk x = true := by cases n <;> exact h
    simp [D.py, D.pyd, PyData.canLay0, PyData.depth, h]
  | 0, .tup _, h => by simp [gd] at h
  | 0, .lst _, h => by simp [gd] at h
  | 0, .wls _, h => by simp [gd] at h
  | n + 1, .tup xs, h => by
    simp only [gd] at h
    have ih := gds_py n xs h
    simp [D.py, D.pyd, PyData.canLay0, PyData.depth, ih.1, ih.2.1]
    have := ih.2.2
    omega
  | n + 1, .lst xs, h => by
    simp only [gd] at h
    have ih := gds_py n xs h
    simp [D.py, D.pyd, PyData.canLay0, PyData.depth, ih.1, ih.2.1]
    have := ih.2.2
    omega
  | n + 1, .wls xs, h => by
    simp only [gd] at h
    have ih := gds_py n xs h
    simp [D.py, D.pyd, PyData.canLay0, PyData.depth, ih.1, ih.2.1]
    have := ih.2.2
    omega
  | 0, .obj _ _ _, h => by simp [gd] at h
  | 0, .dct _ _, h => by simp [gd] at h
  | 0, .ref _, h => by simp [gd] at h
  | 0, .ty _, h => by simp [gd] at h
  | 0, .gv _, h => by simp [gd] at h
  | n + 1, .obj _ _ _, h => by simp [gd] at h
  | n + 1, .dct _ _, h => by simp [gd] at h
  | n + 1, .ref _, h => by simp [gd] at h
  | n + 1, .ty _, h => by simp [gd] at h
  | n + 1, .gv _, h => by simp [gd] at h
theorem gds_py : ∀ (n : Nat) (ds : List D), gds n ds → pys ds = some (pyds ds) ∧ PyData.canLayAll0 (pyds ds) = true ∧ PyData.depthAll (pyds ds) ≤ n
  | n, [], _ => by simp [pys, pyds, PyData.canLayAll0, PyData.depthAll]
  | n, d :: ds, h => by
    simp only [gds] at h
    have a := gd_py n d h.1
    have b := gds_py n ds h.2
    simp [pys, pyds, PyData.canLayAll0, PyData.depthAll, a.1, a.2.1, b.1, b.2.1]
    have := a.2.2; have := b.2.2
    omega
end
theorem gd_shaped {n : Nat} {d : D} (h : gd n d) (hn : n ≤ 64) : SeqAt.shaped d.pyd = true := by
  have a := gd_py n d h
  unfold SeqAt.shaped
  rw [a.2.1]
  have := a.2.2
  simp; omega
theorem gd_tup {n : Nat} {xs : List D} : gd (n + 1) (.tup xs) = gds n xs := by simp only [gd]
theorem gd_lst {n : Nat} {xs : List D} : gd (n + 1) (.lst xs) = gds n xs := by simp only [gd]
theorem gds_map {α : Type} {n : Nat} {c : α → D} : ∀ {xs : List α}, (∀ a ∈ xs, gd n (c a)) → gds n (xs.map c)
  | [], _ => by simp [gds]
  | x :: xs, h => by
    rw [List.map_cons]
    simp only [gds]
    exact ⟨h x (by simp), gds_map fun a ha => h a (by simp [ha])⟩
theorem pyds_map {α : Type} {c : α → D} : ∀ xs : List α, pyds (xs.map c) = xs.map fun a => (c a).pyd
  | [] => by simp [pyds]
  | x :: xs => by simp [pyds, pyds_map xs]
mutual
theorem gd_mono {n m : Nat} (h : n ≤ m) : ∀ d : D, gd n d → gd m d
  | .non, _ => by cases m <;> simp [gd]
  | .bl _, _ => by cases m <;> simp [gd]
  | .int _, _ => by cases m <;> simp [gd]
  | .str x, g => by
    have g : PyData.strOk x = true := by cases n <;> exact g
    cases m <;> exact g
  | .tup xs, g => by
    cases n with
    | zero => simp [gd] at g
    | succ n =>
      cases m with
      | zero => omega
      | succ m => simp only [gd] at g ⊢; exact gds_mono (by omega) xs g
  | .lst xs, g => by
    cases n with
    | zero => simp [gd] at g
    | succ n =>
      cases m with
      | zero => omega
      | succ m => simp only [gd] at g ⊢; exact gds_mono (by omega) xs g
  | .wls xs, g => by
    cases n with
    | zero => simp [gd] at g
    | succ n =>
      cases m with
      | zero => omega
      | succ m => simp only [gd] at g ⊢; exact gds_mono (by omega) xs g
  | .obj _ _ _, g => by cases n <;> simp [gd] at g
  | .dct _ _, g => by cases n <;> simp [gd] at g
  | .ref _, g => by cases n <;> simp [gd] at g
  | .ty _, g => by cases n <;> simp [gd] at g
  | .gv _, g => by cases n <;> simp [gd] at g
theorem gds_mono {n m : Nat} (h : n ≤ m) : ∀ ds : List D, gds n ds → gds m ds
  | [], _ => by simp [gds]
  | d :: ds, g => by
    simp only [gds] at g ⊢
    exact ⟨gd_mono h d g.1, gds_mono h ds g.2⟩
end
/-- == of data -/
def eqD (x y : D) : Bool := PyData.eqv x.pyd y.pyd
section
variable {G : HH} {Q : QD}
theorem st_eqD {x y : D} (n : Nat) (h1 : gd n x) (h2 : gd n y) (hn : n ≤ 64) (h : Q (.bl (eqD x y)) G) : eAny false x y G Q :=
  st_eqP (Py.of (gd_py n x h1).1) (Py.of (gd_py n y h2).1) (gd_shaped h1 hn) (gd_shaped h2 hn) h
theorem st_neD {x y : D} (n : Nat) (h1 : gd n x) (h2 : gd n y) (hn : n ≤ 64) (h : Q (.bl (!eqD x y)) G) : eAny true x y G Q :=
  st_neP (Py.of (gd_py n x h1).1) (Py.of (gd_py n y h2).1) (gd_shaped h1 hn) (gd_shaped h2 hn) h
end
theorem eqvAll_dec {α : Type} {f : α → PyData} (h : ∀ a b, PyData.eqv (f a) (f b) = true ↔ a = b) : ∀ xs ys : List α, PyData.eqvAll (xs.map f) (ys.map f) = true ↔ xs = ys
  | [], [] => by simp [PyData.eqvAll]
  | [], _ :: _ => by simp [PyData.eqvAll]
  | _ :: _, [] => by simp [PyData.eqvAll]
  | x :: xs, y :: ys => by
    simp only [List.map_cons, PyData.eqvAll, Bool.and_eq_true, h x y, eqvAll_dec h xs ys, List.cons.injEq]
theorem eqv_int {i j : Int} : PyData.eqv (.int i) (.int j) = true ↔ i = j := by simp [PyData.eqv]
theorem eqv_str {i j : Str} : PyData.eqv (.str i) (.str j) = true ↔ i = j := by simp [PyData.eqv]
theorem eqv_bool {i j : Bool} : PyData.eqv (.bool i) (.bool j) = true ↔ i = j := by simp [PyData.eqv]
theorem eqD_tup {α : Type} {c : α → D} (h : ∀ a b, eqD (c a) (c b) = true ↔ a = b) (xs ys : List α) : eqD (.tup (xs.map c)) (.tup (ys.map c)) = true ↔ xs = ys := by
  show PyData.eqv (D.pyd _) (D.pyd _) = true ↔ _
  simp only [D.pyd, PyData.eqv, pyds_map]
  exact eqvAll_dec h xs ys
theorem eqD_lst {α : Type} {c : α → D} (h : ∀ a b, eqD (c a) (c b) = true ↔ a = b) (xs ys : List α) : eqD (.lst (xs.map c)) (.lst (ys.map c)) = true ↔ xs = ys := by
  show PyData.eqv (D.pyd _) (D.pyd _) = true ↔ _
  simp only [D.pyd, PyData.eqv, pyds_map]
  exact eqvAll_dec h xs ys
theorem eqD_int {i j : Int} : eqD (.int i) (.int j) = true ↔ i = j := eqv_int
theorem eqD_str {i j : Str} : eqD (.str i) (.str j) = true ↔ i = j := eqv_str
theorem eqD_bl {i j : Bool} : eqD (.bl i) (.bl j) = true ↔ i = j := eqv_bool
theorem dec_of {b : Bool} {p : Prop} [Decidable p] (h : b = true ↔ p) : b = decide p := by
  by_cases hp : p
  · rw [decide_eq_true hp]; exact h.mpr hp
  · rw [decide_eq_false hp]
    cases b
    · rfl
    · exact absurd (h.mp rfl) hp
/-! repr -/
mutual
/-- ints below 2 ^ b -/
def sm (b : Nat) : D → Prop
  | .int i => i.natAbs < 2 ^ b
  | .tup xs => sms b xs
  | .lst xs => sms b xs
  | .wls xs => sms b xs
  | _ => True
def sms (b : Nat) : List D → Prop
  | [] => True
  | x :: xs => sm b x ∧ sms b xs
end
mutual
/-- how much there is of it -/
def D.bulk : D → Nat
  | .str x => x.cps.size + 1
  | .tup xs => bulks xs + 1
  | .lst xs => bulks xs + 1
  | .wls xs => bulks xs + 1
  | _ => 1
def bulks : List D → Nat
  | [] => 0
  | x :: xs => x.bulk + bulks xs + 1
end
theorem sms_map {α : Type} {b : Nat} {c : α → D} : ∀ {xs : List α}, (∀ a ∈ xs, sm b (c a)) → sms b (xs.map c)
  | [], _ => by simp [sms]
  | x :: xs, h => by
    rw [List.map_cons]
    simp only [sms]
    exact ⟨h x (by simp), sms_map fun a ha => h a (by simp [ha])⟩
theorem bulks_map {α : Type} {B : Nat} {c : α → D} : ∀ {xs : List α}, (∀ a ∈ xs, (c a).bulk ≤ B) → bulks (xs.map c) ≤ (B + 1) * xs.length
  | [], _ => by simp [bulks]
  | x :: xs, h => by
    have h1 := h x (by simp)
    have h2 := bulks_map (xs := xs) fun a ha => h a (by simp [ha])
    simp only [List.map_cons, bulks, List.length_cons, Nat.mul_add]
    omega
mutual
theorem fine_of {b : Nat} : ∀ (n : Nat) (d : D), gd n d → sm b d → fine b n d.pyd
  | n, .non, _, _ => by cases n <;> simp [D.pyd, fine]
  | n, .bl _, _, _ => by cases n <;> simp [D.pyd, fine]
  | n, .int i, _, h => by
    simp only [sm] at h
    cases n <;> simpa only [D.pyd, fine] using h
  | n, .str x, h, _ => by cases n <;> exact h
  | 0, .tup _, h, _ => by simp [gd] at h
  | 0, .lst _, h, _ => by simp [gd] at h
  | 0, .wls _, h, _ => by simp [gd] at h
  | n + 1, .tup xs, h, g => by
    simp only [gd, sm] at h g
    simp only [D.pyd, fine]
    exact fines_of n xs h g
  | n + 1, .lst xs, h, g => by
    simp only [gd, sm] at h g
    simp only [D.pyd, fine]
    exact fines_of n xs h g
  | n + 1, .wls xs, h, g => by
    simp only [gd, sm] at h g
    simp only [D.pyd, fine]
    exact fines_of n xs h g
  | n, .obj _ _ _, h, _ => by cases n <;> simp [gd] at h
  | n, .dct _ _, h, _ => by cases n <;> simp [gd] at h
  | n, .ref _, h, _ => by cases n <;> simp [gd] at h
  | n, .ty _, h, _ => by cases n <;> simp [gd] at h
  | n, .gv _, h, _ => by cases n <;> simp [gd] at h
theorem fines_of {b : Nat} : ∀ (n : Nat) (ds : List D), gds n ds → sms b ds → fineAll b n (pyds ds)
  | n, [], _, _ => by simp [pyds, fineAll]
  | n, d :: ds, h, g => by
    simp only [gds, sms] at h g
    simp only [pyds, fineAll]
    exact ⟨fine_of n d h.1 g.1, fines_of n ds h.2 g.2⟩
end
mutual
theorem bulk_le : ∀ d : D, d.pyd.bulk ≤ d.bulk
  | .non => by simp [D.pyd, PyData.bulk]
  | .bl _ => by simp [D.pyd, PyData.bulk]
  | .int _ => by simp [D.pyd, PyData.bulk]
  | .str x => by simp [D.pyd, PyData.bulk, D.bulk]
  | .tup xs => by
    have := bulks_le xs
    simp only [D.pyd, PyData.bulk, D.bulk]; omega
  | .lst xs => by
    have := bulks_le xs
    simp only [D.pyd, PyData.bulk, D.bulk]; omega
  | .wls xs => by
    have := bulks_le xs
    simp only [D.pyd, PyData.bulk, D.bulk]; omega
  | .obj _ _ _ => by simp [D.pyd, PyData.bulk]
  | .dct _ _ => by simp [D.pyd, PyData.bulk]
  | .ref _ => by simp [D.pyd, PyData.bulk]
  | .ty _ => by simp [D.pyd, PyData.bulk]
  | .gv _ => by simp [D.pyd, PyData.bulk]
  | .xe _ _ _ _ => by simp [D.pyd, PyData.bulk]
theorem bulks_le : ∀ ds : List D, PyData.bulkAll (pyds ds) ≤ bulks ds
  | [] => by simp [pyds, PyData.bulkAll]
  | d :: ds => by
    have h1 := bulk_le d
    have h2 := bulks_le ds
    simp only [pyds, PyData.bulkAll, bulks]; omega
end
/-- data whose repr fits: of depth 60, ints below 2 ^ b, so much of it -/
structure Rpr (b B : Nat) (d : D) : Prop where
  g : gd 60 d
  s : sm b d
  z : d.bulk ≤ B
theorem Rpr.shw {b B : Nat} {d : D} (h : Rpr b B d) (h0 : 0 < b ∧ b ≤ 1900) (hB : (b + 12) * B + b + 10 ≤ 16777216) : Shw d.pyd := by
  refine shw_of (b := b) (n := 60) h0.1 h0.2 (by decide) (fine_of 60 d h.g h.s) ?_
  have := Nat.mul_le_mul_left (b + 12) (Nat.le_trans (bulk_le d) h.z)
  omega
theorem st_reprD {G : HH} {Q : QD} {x : D} (b B : Nat) (h : Rpr b B x) (h0 : 0 < b ∧ b ≤ 1900) (hB : (b + 12) * B + b + 10 ≤ 16777216) (q : Q (.str x.pyd.shown) G) : kRepr [x] G Q :=
  st_repr (Py.of (gd_py 60 x h.g).1) (h.shw h0 hB) q
theorem Rpr.bl {b : Bool} : Rpr 64 10 (.bl b) := ⟨by simp [gd], by simp [sm], by simp [D.bulk]⟩
theorem Rpr.int {i : Int} {b : Nat} (h : i.natAbs < 2 ^ b) : Rpr b 10 (.int i) := ⟨by simp [gd], by simpa only [sm] using h, by simp [D.bulk]⟩
theorem st_reprB {G : HH} {Q : QD} {x : Bool} (q : Q (.str (D.bl x).pyd.shown) G) : kRepr [.bl x] G Q := st_reprD 64 10 .bl (by decide) (by decide) q
theorem st_reprI {G : HH} {Q : QD} {x : Int} (h : x.natAbs < 2 ^ 64) (q : Q (.str (D.int x).pyd.shown) G) : kRepr [.int x] G Q := st_reprD 64 10 (.int h) (by decide) (by decide) q
theorem st_iteF' {b : Bool} {A B : Prop} (h : b = false) (q : B) : if b = true then A else B := by rw [h, if_neg Bool.false_ne_true]; exact q
theorem st_iteT' {b : Bool} {A B : Prop} (h : b = true) (q : A) : if b = true then A else B := by rw [h, if_pos rfl]; exact q
theorem st_sz {xs : List D} {P : Prop} (h : xs.length ≤ sizeLine) (q : P) : xs.length ≤ sizeLine ∧ P := ⟨h, q⟩
theorem ne_sn {G : HH} {p q : Addr} {o : HOD} (h : G p = some o) (h' : G q = none) : p ≠ q := by intro e; rw [e, h'] at h; cases h
section
variable {G : HH} {Q : QD} {α : Type} {c : α → D} {xs : List α}
theorem st_lenLm (h : Q (.int xs.length) G) : kLen [.lst (xs.map c)] G Q := st_len (.lst _) (by rw [List.length_map]; exact h)
theorem st_lenTm (h : Q (.int xs.length) G) : kLen [.tup (xs.map c)] G Q := st_len (.tup _) (by rw [List.length_map]; exact h)
theorem st_lenWm (h : Q (.int xs.length) G) : kLen [.wls (xs.map c)] G Q := st_len (.wls _) (by rw [List.length_map]; exact h)
end
theorem st_strq {x : Str} {P : Str → Prop} (q : P x) : ∃ z, D.str x = .str z ∧ P z := ⟨x, rfl, q⟩
theorem st_addSl {G : HH} {Q : QD} {x y : Str} (hl : x.length + y.length ≤ 16777216) (h : Q (.str (x ++ y)) G) : aAny (.str x) (.str y) G Q := st_addS (by rw [sizeLine_eq]; exact hl) h
theorem sz_small {n : Nat} (h : n ≤ 1000) : n ≤ sizeLine := by rw [sizeLine_eq]; omega
/-- f(a, *v): how it binds -/
theorem fun_star1 {K : Frag} {x qual : Str} {st : Stmt} {f : Addr} {fd : FuncData} {p1 pv : Str} (F : Fun K x qual st f fd)
    (h0 : ∀ (kV doc pm : Value) (an : Option Addr) (cdv ct : Value) (a : Value), bindArgs (PySem.W.fnOf x qual (defArgs st) (defBody st) (defScope st) .none kV doc pm an cdv ct) ⟨[a], []⟩ = (newTuple [] >>= fun t => pure [(p1, a), (pv, t)]))
    (h1 : ∀ (kV doc pm : Value) (an : Option Addr) (cdv ct : Value) (a r : Value) (rs : List Value), bindArgs (PySem.W.fnOf x qual (defArgs st) (defBody st) (defScope st) .none kV doc pm an cdv ct) ⟨a :: r :: rs, []⟩ = (newTuple (r :: rs) >>= fun t => pure [(p1, a), (pv, t)])) :
    ∀ us rest : List Value, us.length = 1 → bindArgs fd ⟨us ++ rest, []⟩ = (newTuple rest >>= fun t => pure (([p1] : List Str).zip us ++ [(pv, t)])) := by
  obtain ⟨oc, od, kV, doc, pm, an, cdv, ct, osl, rfl, lk, hcd⟩ := F.ex
  intro us rest hl
  match us, rest, hl with
  | [a], [], _ => exact h0 kV doc pm an cdv ct a
  | [a], r :: rs, _ => exact h1 kV doc pm an cdv ct a r rs
end DL

namespace DL
open PySem PySem.Spec PyProof.Rows L2
open PySem.W (Frag)
/-! ### calls and methods of instances of several classes; defs as values -/
section
variable {X : Cx} {W : WX} {fe e o : Expr} {es : List Expr} {tf to : TED} {t : TAD} {pos apos : Pos}
/-- classes whose instances may be called -/
def CTab (X : Cx) (k : Nat) (tb : List (Str × SpD)) : Prop := ∀ p ∈ tb, ∃ C g fd ps, gaddr X.K p.1 = some C ∧ StX.CallO X.K C g ∧ FnG X.prog X.w X.K X.mg X.base k g fd ps p.2 ∧ Binds X.K fd ps []
/-- defs that are called as values -/
def FTab (X : Cx) (k : Nat) (tb : List (Str × SpD)) : Prop := ∀ p ∈ tb, ∃ f fd ps, gaddr X.K p.1 = some f ∧ PySem.W.keepIn X.K (.ref f) = true ∧ FnG X.prog X.w X.K X.mg X.base k f fd ps p.2 ∧ Binds X.K fd ps []
/-- classes that have a method -/
def MTab (X : Cx) (k : Nat) (m : Str) (tb : List (Str × SpD)) : Prop := ∀ p ∈ tb, ∃ C f fd ps, gaddr X.K p.1 = some C ∧ Cls X.K C ∧ Meth X.K C m f ∧ FnG X.prog X.w X.K X.mg X.base k f fd ps p.2 ∧ Binds X.K fd ps []
def dCallV (tbo tbf : List (Str × SpD)) (tf : TED) (t : TAD) : TED := fun σ G Q E => tf σ G (fun x G1 => (∃ c sp ns ds, InsD G1 x c ns ds ∧ (c, sp) ∈ tbo ∧ t σ G1 (fun as G2 => (∃ ns ds, InsD G2 x c ns ds) ∧ sp (x :: as) G2 Q E) E) ∨ ∃ c sp, x = .gv c ∧ (c, sp) ∈ tbf ∧ t σ G1 (fun as G2 => sp as G2 Q E) E) E
theorem de_callV {k : Nat} {tbo tbf : List (Str × SpD)} (ho : CTab X k tbo) (hf : FTab X k tbf) (hgd : X.A.guards = some []) (hr : Room k X.A) (tk : Takes X W) (hfe : DE X W fe tf) (ha : DA X W (e :: es) t)
    (ht : eval (.Call fe (e :: es) [] pos) X.env = (do callWith pos (← eval fe X.env) [] (backTo pos (starEach (e :: es) X.env)) (backToKw pos (keywordEach [] X.env))) := by rfl)
    (he : starEach (e :: es) X.env = (false, eval e X.env) :: starEach es X.env := by rfl) (hpl : (backTo pos (starEach es X.env)).any (·.1) = false := by rfl) : DE X W (.Call fe (e :: es) [] pos) (dCallV tbo tbf tf t) := by
  have ha' : PA X (e :: es) (lftA X.K W t) := ha
  have hf' : PE X fe (lft X.K W tf) := hfe
  refine ⟨fun pins s σ H Q I ⟨σD, G, QD, E, hR, hS, q, hq, hE⟩ => ?_⟩
  refine Call_ (thn (hf'.run pins s σ H (fun v H1 => ∃ d G1, Stp H G H1 G1 ∧ RelH X.K H1 G1 ∧ Rp X.K H1 G1 d v ∧ ((∃ c sp ns ds, InsD G1 d c ns ds ∧ (c, sp) ∈ tbo ∧ t σD G1 (fun as G2 => (∃ ns ds, InsD G2 d c ns ds) ∧ sp (d :: as) G2 QD E) E) ∨ ∃ c sp, d = .gv c ∧ (c, sp) ∈ tbf ∧ t σD G1 (fun as G2 => sp as G2 QD E) E)) I ⟨σD, G, _, E, hR, hS, q, fun v H1 d G1 s1 r1 p1 z => ⟨d, G1, s1, r1, p1, z⟩, hE⟩) fun u s1 ⟨x, H1, I1, rx, d, G1, s1', r1, p1, z⟩ => ?_) ht
  rcases z with ⟨c, sp, ns0, ds0, hi0, hm, q1⟩ | ⟨c, sp, rfl, hm, q1⟩
  · obtain ⟨C, g, fd, ps, hC, co, F, hb⟩ := ho _ hm
    obtain ⟨a, _, _, _, ex, _, _, _, _⟩ := hi0.of r1 p1
    subst ex
    obtain rfl : u = Value.ref a := rx
    refine StX.callO_with (thn (ha'.run pos pins s1 σ H1 (fun vs H2 => (∃ dx fs, H2 a = some (.ins C dx fs)) ∧ lsp X.K sp (.ref a :: vs) H2 Q (WE W σ)) I1 ⟨σD, G1, _, E, r1, hS.mono s1', q1, fun vs H2 as G2 s2 r2 p2 ⟨⟨ns, ds, hi⟩, q2⟩ => ?_, hE.mono s1'⟩) fun us s2 ⟨vs, H2, I2, r, ⟨dx2, fs2, hi2⟩, q2⟩ => ?_) he hpl
    · have p3 := p1.mono s2
      obtain ⟨b, C', dx, xs, ex, h1, h2, h3, h4⟩ := hi.of r2 p3
      cases ex
      have hCC : C' = C := by rw [hC] at h1; exact (Option.some.inj h1).symm
      subst hCC
      exact ⟨⟨_, _, h2⟩, d :: as, G2, QD, E, r2, .cons p3 p2, q2, hq.mono (s1'.trans s2), fun xd cls d' H' G' s' r' p' z' => hE _ _ _ _ _ ((s1'.trans s2).trans s') r' p' z'⟩
    · obtain ⟨ox, od, J, hd⟩ := StX.insC_at I2 (Or.inr ⟨_, _, hi2⟩)
      refine ⟨⟨C, ox, od, J, hd⟩, ?_⟩
      have rv : Vals (V.ref a :: vs) (Value.ref a :: us) := .cons (vref a) r
      have hl : (Value.ref a :: us).length = ps.length := by rw [← rv.length]; exact F.llen q2
      have b := hb s2 (Value.ref a :: us) I2.kIn (by rw [List.append_nil]; exact hl)
      rw [List.append_nil] at b
      refine wpAny_call (PySem.W.kco_code I2.kIn J hd co.at_ co.fn co.fi (codeAny_mono (run_any F hgd hr tk I2 b rv q2) fun r s' hq' => ?_))
      cases r with
      | error e => exact hq'
      | ok fl =>
        cases fl with
        | ret u => exact hq'
        | next => exact False.elim hq'
        | brk => exact False.elim hq'
        | cont => exact False.elim hq'
  · obtain ⟨f, fd, ps, hC, hk, F, hb⟩ := hf _ hm
    cases p1 with
    | gv e1 =>
      rename_i a
      have hCC : a = f := by rw [show gaddr X.K c = some f from hC] at e1; exact (Option.some.inj e1).symm
      subst hCC
      obtain rfl : u = Value.ref a := rx
      refine PySem.W.callWith_K (first := []) (h₀ := X.base) I.ok.mod.kin hk (thn (ha'.run pos pins s1 σ H1 (fun vs H2 => lsp X.K sp vs H2 Q (WE W σ)) I1 ⟨σD, G1, _, E, r1, hS.mono s1', q1, fun vs H2 as G2 s2 r2 p2 q2 => ?_, hE.mono s1'⟩) fun us s2 ⟨vs, H2, I2, r, q2⟩ => ⟨I2.kIn, ?_⟩) he hpl
      · exact ⟨as, G2, QD, E, r2, p2, q2, hq.mono (s1'.trans s2), fun xd cls d' H' G' s' r' p' z' => hE _ _ _ _ _ ((s1'.trans s2).trans s') r' p' z'⟩
      · exact run_call F hgd hr hb tk I2 r q2
/-- o.m(..), o of one of several classes -/
def dMethV (m : Str) (tb : List (Str × SpD)) (ta : TED) (t : TAD) : TED := fun σ G Q E => ta σ G (fun x G1 => ∃ c sp ns ds, InsD G1 x c ns ds ∧ lk m ns ds = none ∧ (c, sp) ∈ tb ∧ t σ G1 (fun as G2 => sp (x :: as) G2 Q E) E) E
theorem de_methV {m : Str} {k : Nat} {tb : List (Str × SpD)} {pl : Sem Bool} (hT : MTab X k m tb) (hgd : X.A.guards = some []) (hr : Room k X.A) (tk : Takes X W) (ho : DE X W o to) (ha : DA X W (e :: es) t)
    (hst : starEach (e :: es) X.env = (false, eval e X.env) :: starEach es X.env := by rfl) (hpl : (backTo pos (starEach es X.env)).any (·.1) = false := by rfl)
    (ht : eval (.Call (.Attribute o m apos) (e :: es) [] pos) X.env = (do
      let ov ← eval o X.env
      standAt apos.atName
      let (f, first) ← holding [ov] (getMethod ov m pl)
      callWith pos f first (backTo pos (starEach (e :: es) X.env)) (backToKw pos (keywordEach [] X.env))) := by rfl) :
    DE X W (.Call (.Attribute o m apos) (e :: es) [] pos) (dMethV m tb to t) := by
  have ha' : PA X (e :: es) (lftA X.K W t) := ha
  have ho' : PE X o (lft X.K W to) := ho
  refine ⟨fun pins s σ H Q I ⟨σD, G, QD, E, hR, hS, q, hq, hE⟩ => ?_⟩
  refine PySem.W.methodCall_KW (pl := pl) (thn (ho'.run pins s σ H (fun v H1 => ∃ d G1, Stp H G H1 G1 ∧ RelH X.K H1 G1 ∧ Rp X.K H1 G1 d v ∧ ∃ c sp ns ds, InsD G1 d c ns ds ∧ lk m ns ds = none ∧ (c, sp) ∈ tb ∧ t σD G1 (fun as G2 => sp (d :: as) G2 QD E) E) I ⟨σD, G, _, E, hR, hS, q, fun v H1 d G1 s1 r1 p1 z => ⟨d, G1, s1, r1, p1, z⟩, hE⟩) fun u s1 ⟨x, H1, I1, rx, d, G1, s1', r1, p1, c, sp, ns, ds, hi, hl, hm, q1⟩ => ?_) ht
  obtain ⟨a, C', dx, xs, ex, h1, h2, h3, h4⟩ := hi.of r1 p1
  obtain ⟨C, f, fd, ps, hC, hcl, hme, F, hb⟩ := hT _ hm
  have hCC : C' = C := by rw [hC] at h1; exact (Option.some.inj h1).symm
  subst hCC
  subst ex
  obtain rfl : u = Value.ref a := rx
  have hl' : (ns.zip xs).lookup m = none := by
    rcases lk_zip (f := m) h4 h3 with ⟨_, z⟩ | ⟨d', v, e1, _, _⟩
    · exact z
    · rw [hl] at e1; cases e1
  refine getmeth_ok I1 h2 hcl hme hl' ?_
  refine PySem.W.callWith_K (first := [.ref a]) (h₀ := X.base) I.ok.mod.kin hme.kp (thn (ha'.run pos pins s1 σ H1 (fun vs H2 => lsp X.K sp (.ref a :: vs) H2 Q (WE W σ)) I1 ⟨σD, G1, _, E, r1, hS.mono s1', q1, fun vs H2 as G2 s2 r2 p2 q2 => ?_, hE.mono s1'⟩) fun us s2 ⟨vs, H2, I2, r, q2⟩ => ⟨I2.kIn, ?_⟩) hst hpl
  · exact ⟨d :: as, G2, QD, E, r2, .cons (p1.mono s2) p2, q2, hq.mono (s1'.trans s2), fun xd cls d' H' G' s' r' p' z' => hE _ _ _ _ _ ((s1'.trans s2).trans s') r' p' z'⟩
  · exact run_call F hgd hr hb tk I2 (us := Value.ref a :: us) (vs := V.ref a :: vs) (.cons rfl r) q2
end
/-! ### C(.., k = ..) -/
section
variable {X : Cx} {W : WX} {k n : Nat} {f C : Addr} {fd : FuncData} {ps ks : List Str} {perm : List Nat} {sp : SpD} {e : Expr} {es : List Expr} {kws : List Keyword} {t tk : TAD} {pos : Pos}
theorem run_makeKG {pins : List (Addr × Obj)} {σ : L2.St} {H : Hp} {s : Shared} {Q : VK} {us ws : List Value} {vs : List V} (M : Mk X.K C f) (F : FnG X.prog X.w X.K X.mg X.base k f fd ps sp) (hg : X.A.guards = some []) (hr : Room (k + 1) X.A) (hb : KBd X.K fd ps (n + 1) ks perm) (tk : Takes X W)
    (I : Inv X pins σ H s) (r : Vals vs (us ++ ws)) (l1 : us.length = n) (l2 : ws.length = ks.length)
    (h : ∀ x dx, H x = none → H dx = none → dx ≠ x → lsp X.K sp (pick perm (.ref x :: vs)) (upd (upd H dx (.own x)) x (.ins C dx [])) (fun v H2 => v = .non ∧ Q (.ref x) H2) (WE W σ)) :
    wpAny (model X.prog X.w) X.A (call (.ref C) us (ks.zip ws)) (EP X pins σ Q) X.xe s := by
  have hq := h (s.heap.objs.size + 1) s.heap.objs.size (I.hok.fresh (Nat.le_succ _)) (I.hok.fresh (Nat.le_refl _)) (Nat.ne_of_lt (Nat.lt_succ_self _))
  have I2 := Inv.made (C := C) I
  have r2 : Vals (V.ref (s.heap.objs.size + 1) :: vs) ((Value.ref (s.heap.objs.size + 1) :: us) ++ ws) := .cons (vref _) r
  have b := hb.to _ (Value.ref (s.heap.objs.size + 1) :: us) ws I2.kIn (by simp [l1]) l2
  refine wpAny_call (make_map (f := f) I.kIn M.makes M.init (beq_iff_eq.mp M.fn) (codeAny_mono (F.run _ X.stack _ _ ⟨Value.ref (s.heap.objs.size + 1) :: us, ks.zip ws⟩ _ _ _ (WE W σ) (guards_make hg C us _) (hr.make C us _) (I2.env0.make C us _) b (Vals.pick r2) hq) fun r s' hq' => ?_))
  cases r with
  | error e => exact passAt tk σ pins _ _ e s' I2 hq'
  | ok fl =>
    cases fl with
    | ret u =>
      obtain ⟨v, H', I3, rv, ev, q3⟩ := I2.after hq'
      subst ev
      exact ⟨rv, ⟨V.ref (s.heap.objs.size + 1), H', I3, rfl, q3⟩⟩
    | next => exact False.elim hq'
    | brk => exact False.elim hq'
    | cont => exact False.elim hq'
def dMakeK (fr : Bool) (c : Str) (n m : Nat) (perm : List Nat) (sp : SpD) (t tk : TAD) : TED := fun σ G Q E => t σ G (fun ds G1 => tk σ G1 (fun zs G2 => ds.length = n ∧ zs.length = m ∧ ∀ p, G2 p = none → sp (pick perm (.ref p :: (ds ++ zs))) (gput G2 p (.ins c [] []))
  (fun v G3 => v = .non ∧ if fr = true then ∃ ns vs, G3 p = some (.ins c ns vs) ∧ Q (.obj c ns vs) (gdel G3 p) else Q (.ref p) G3) E) E) E
/-- a new instance, and what its making comes to -/
theorem lsp_make {K : Frag} {c : Str} {fr : Bool} {σ : L2.St} {H : Hp} {G : HH} {Q : VK} {QD : QD} {E : ED} {vs : List V} {ds : List D} (hC : gaddr K c = some C) (hR : RelH K H G) (hp : Rps K H G ds vs) (hq : Ct K H G Q QD) (hE : Exs K W σ H G E)
    (q : ∀ p, G p = none → sp (pick perm (.ref p :: ds)) (gput G p (.ins c [] [])) (fun v G3 => v = .non ∧ if fr = true then ∃ ns vs, G3 p = some (.ins c ns vs) ∧ QD (.obj c ns vs) (gdel G3 p) else QD (.ref p) G3) E) :
    ∀ x dx, H x = none → H dx = none → dx ≠ x → lsp K sp (pick perm (.ref x :: vs)) (upd (upd H dx (.own x)) x (.ins C dx [])) (fun v H2 => v = .non ∧ Q (.ref x) H2) (WE W σ) := by
  intro x dx hx hdx hne
  have s2 := Stp.new (G := G) (o := .own x) hdx
  have r2 := hR.new (o := .own x) hdx
  have hx2 : (upd H dx (.own x)) x = none := by rw [upd_ne (fun z => hne z.symm)]; exact hx
  have s3 := Stp.newM (G := G) (o := .ins C dx []) (od := .ins c [] []) hx2
  have r3 := r2.newM (o := .ins C dx []) (od := .ins c [] []) hx2 ⟨C, dx, [], hC, by rw [upd_same]; rfl, rfl, .nil⟩
  have s23 := s2.trans s3
  refine ⟨pick perm (.ref x :: ds), gput G x (.ins c [] []), _, E, r3, Rps.pick (.cons (.ref x) (hp.mono s23)), q x (hR.free hx), fun v H4 d G4 s4 r4 p4 ⟨e4, z4⟩ => ?_, fun xd cls d H4 G4 s4 r4 p4 z4 => hE _ _ _ _ _ (s23.trans s4) r4 p4 z4⟩
  subst e4; cases p4
  refine ⟨rfl, ?_⟩
  cases fr with
  | true =>
    rw [if_pos rfl] at z4
    obtain ⟨ns, ws, e5, z5⟩ := z4
    exact hq _ _ _ _ (s23.trans (s4.trans Stp.del)) r4.del (thaw_ins r4 e5) z5
  | false =>
    rw [if_neg Bool.false_ne_true] at z4
    exact hq _ _ _ _ (s23.trans s4) r4 (.ref x) z4
theorem de_makeK0 {c x : Str} {p : Pos} {m : Nat} (fr : Bool) (hC : gaddr X.K c = some C) (M : Mk X.K C f) (F : FnG X.prog X.w X.K X.mg X.base k f fd ps sp) (hgd : X.A.guards = some []) (hr : Room (k + 1) X.A) (hg : Gl X x) (hm : X.mg x = some (.ref C)) (hb : KBd X.K fd ps 1 ks perm) (tkw : Takes X W) (hkw : DK X W kws tk)
    (hlen : ks.length = m := by rfl) (hall : (backToKw pos (keywordEach kws X.env)).all (·.1.isSome) = true := by rfl) (hks : (backToKw pos (keywordEach kws X.env)).filterMap (·.1) = ks := by rfl) (hdb : (x == ("__debug__" : Str)) = false := by decide)
    (hpl : ((backTo pos (starEach [] X.env)).any (·.1) || (backToKw pos (keywordEach kws X.env)).any (·.1.isNone)) = false := by rfl) :
    DE X W (.Call (.Name x p) [] kws pos) (dMakeK fr c 0 m perm sp dNil tk) := by
  subst hlen
  refine ⟨fun pins s σ H Q I ⟨σD, G, QD, E, hR, hS, ht, hq, hE⟩ => ?_⟩
  refine wpAny_Call_Name_kw (ld_glob I hg hm ?_ hdb)
  have hkw' : PK X kws (lftA X.K W tk) := hkw
  refine PySem.W.callWith_KW0 (h₀ := X.base) I.ok.mod.kin M.kp hall ?_ hpl
  refine thn (hkw'.run pos pins s σ H (fun zs H2 => zs.length = ks.length ∧ ∀ x dx, H2 x = none → H2 dx = none → dx ≠ x → lsp X.K sp (pick perm (.ref x :: zs)) (upd (upd H2 dx (.own x)) x (.ins C dx [])) (fun v H3 => v = .non ∧ Q (.ref x) H3) (WE W σ)) I
    ⟨σD, G, _, E, hR, hS, ht, fun zs H2 es G2 s2 r2 p2 ⟨_, l2, q2⟩ => ⟨by rw [← p2.length]; exact l2, lsp_make hC r2 p2 (hq.mono s2) (hE.mono s2) q2⟩, hE⟩) fun ws s2 ⟨zs, H2, I2, rz, l2, q2⟩ => ⟨I2.kIn, ?_⟩
  rw [hks]
  exact run_makeKG (us := []) (n := 0) M F hgd hr hb tkw I2 (by simpa using rz) rfl (by rw [← rz.length]; exact l2) q2
theorem de_makeK {c x : Str} {p : Pos} {m : Nat} (fr : Bool) (hC : gaddr X.K c = some C) (M : Mk X.K C f) (F : FnG X.prog X.w X.K X.mg X.base k f fd ps sp) (hgd : X.A.guards = some []) (hr : Room (k + 1) X.A) (hg : Gl X x) (hm : X.mg x = some (.ref C)) (hb : KBd X.K fd ps (n + 1) ks perm) (tkw : Takes X W) (ha : DA X W (e :: es) t) (hkw : DK X W kws tk)
    (hlen : ks.length = m := by rfl) (hall : (backToKw pos (keywordEach kws X.env)).all (·.1.isSome) = true := by rfl) (hks : (backToKw pos (keywordEach kws X.env)).filterMap (·.1) = ks := by rfl) (hdb : (x == ("__debug__" : Str)) = false := by decide)
    (he : starEach (e :: es) X.env = (false, eval e X.env) :: starEach es X.env := by rfl)
    (hpl : ((backTo pos (starEach (e :: es) X.env)).any (·.1) || (backToKw pos (keywordEach kws X.env)).any (·.1.isNone)) = false := by rfl) :
    DE X W (.Call (.Name x p) (e :: es) kws pos) (dMakeK fr c n m perm sp t tk) := by
  subst hlen
  refine ⟨fun pins s σ H Q I ⟨σD, G, QD, E, hR, hS, ht, hq, hE⟩ => ?_⟩
  refine wpAny_Call_Name_kw (ld_glob I hg hm ?_ hdb)
  have ha' : PA X (e :: es) (lftA X.K W t) := ha
  have hkw' : PK X kws (lftA X.K W tk) := hkw
  refine PySem.W.callWith_KW (h₀ := X.base) I.ok.mod.kin M.kp hall (thn (ha'.run pos pins s σ H (fun vs H1 => lftA X.K W tk σ H1 fun zs H2 => vs.length = n ∧ zs.length = ks.length ∧ ∀ x dx, H2 x = none → H2 dx = none → dx ≠ x → lsp X.K sp (pick perm (.ref x :: (vs ++ zs))) (upd (upd H2 dx (.own x)) x (.ins C dx [])) (fun v H3 => v = .non ∧ Q (.ref x) H3) (WE W σ)) I
    ⟨σD, G, _, E, hR, hS, ht, fun vs H1 ds G1 s1 r1 p1 q1 => ⟨σD, G1, _, E, r1, hS.mono s1, q1, fun zs H2 es G2 s2 r2 p2 ⟨l1, l2, q2⟩ => ⟨by rw [← p1.length]; exact l1, by rw [← p2.length]; exact l2, lsp_make hC r2 ((p1.mono s2).append p2) (hq.mono (s1.trans s2)) (hE.mono (s1.trans s2)) q2⟩, hE.mono s1⟩, hE⟩) fun us s1 ⟨vs, H1, I1, r, q⟩ => ?_) hpl he
  refine thn (hkw'.run pos pins s1 σ H1 _ I1 q) fun ws s2 ⟨zs, H2, I2, rz, l1, l2, q2⟩ => ⟨I2.kIn, ?_⟩
  rw [hks]
  exact run_makeKG (us := us) M F hgd hr hb tkw I2 (r.append rz) (by rw [← r.length]; exact l1) (by rw [← rz.length]; exact l2) q2
end
section
variable {X : Cx} {k j : Nat} {c m : Str} {C f : Addr} {fd : FuncData} {ps : List Str} {sp : SpD} {tb : List (Str × SpD)}
theorem CTab.nil : CTab X k [] := fun _ h => by cases h
theorem CTab.cons (hC : gaddr X.K c = some C) (co : StX.CallO X.K C f) (F : FnG X.prog X.w X.K X.mg X.base j f fd ps sp) (hk : j ≤ k) (hb : Binds X.K fd ps []) (r : CTab X k tb) : CTab X k ((c, sp) :: tb) := fun p hp => by
  rcases List.mem_cons.mp hp with rfl | hp
  · exact ⟨C, f, fd, ps, hC, co, F.mono hk, hb⟩
  · exact r p hp
theorem FTab.nil : FTab X k [] := fun _ h => by cases h
theorem FTab.cons (hC : gaddr X.K c = some f) (kp : PySem.W.keepIn X.K (.ref f) = true) (F : FnG X.prog X.w X.K X.mg X.base j f fd ps sp) (hk : j ≤ k) (hb : Binds X.K fd ps []) (r : FTab X k tb) : FTab X k ((c, sp) :: tb) := fun p hp => by
  rcases List.mem_cons.mp hp with rfl | hp
  · exact ⟨f, fd, ps, hC, kp, F.mono hk, hb⟩
  · exact r p hp
theorem MTab.nil : MTab X k m [] := fun _ h => by cases h
theorem MTab.cons (hC : gaddr X.K c = some C) (cl : Cls X.K C) (me : Meth X.K C m f) (F : FnG X.prog X.w X.K X.mg X.base j f fd ps sp) (hk : j ≤ k) (hb : Binds X.K fd ps []) (r : MTab X k m tb) : MTab X k m ((c, sp) :: tb) := fun p hp => by
  rcases List.mem_cons.mp hp with rfl | hp
  · exact ⟨C, f, fd, ps, hC, cl, me, F.mono hk, hb⟩
  · exact r p hp
end
section
variable {σ : SD} {G : HH} {Q : QD} {E : ED} {tf : TED} {t tk : TAD} {tbo tbf tb : List (Str × SpD)} {c m : Str} {sp : SpD} {ns : List Str} {ds : List D}
theorem st_callV (h : tf σ G (fun x G1 => (∃ c sp ns ds, InsD G1 x c ns ds ∧ (c, sp) ∈ tbo ∧ t σ G1 (fun as G2 => (∃ ns ds, InsD G2 x c ns ds) ∧ sp (x :: as) G2 Q E) E) ∨ ∃ c sp, x = .gv c ∧ (c, sp) ∈ tbf ∧ t σ G1 (fun as G2 => sp as G2 Q E) E) E) : dCallV tbo tbf tf t σ G Q E := h
theorem st_callVq {P : Prop} (sp : SpD) (hm : (c, sp) ∈ tbo) (h : t σ G (fun as G2 => (∃ ns2 ds2, InsD G2 (.obj c ns ds) c ns2 ds2) ∧ sp (.obj c ns ds :: as) G2 Q E) E) : (∃ c' sp ns' ds', InsD G (.obj c ns ds) c' ns' ds' ∧ (c', sp) ∈ tbo ∧ t σ G (fun as G2 => (∃ ns2 ds2, InsD G2 (.obj c ns ds) c' ns2 ds2) ∧ sp (.obj c ns ds :: as) G2 Q E) E) ∨ P :=
  .inl ⟨c, sp, ns, ds, .obj c ns ds, hm, h⟩
theorem st_callVf {P : Prop} (sp : SpD) (hm : (c, sp) ∈ tbf) (h : t σ G (fun as G2 => sp as G2 Q E) E) : P ∨ ∃ c' sp, D.gv c = .gv c' ∧ (c', sp) ∈ tbf ∧ t σ G (fun as G2 => sp as G2 Q E) E := .inr ⟨c, sp, rfl, hm, h⟩
theorem st_insQ {P : Prop} (h : P) : (∃ ns2 ds2, InsD G (.obj c ns ds) c ns2 ds2) ∧ P := ⟨⟨ns, ds, .obj c ns ds⟩, h⟩
theorem st_methV {ta : TED} (h : ta σ G (fun x G1 => ∃ c sp ns ds, InsD G1 x c ns ds ∧ lk m ns ds = none ∧ (c, sp) ∈ tb ∧ t σ G1 (fun as G2 => sp (x :: as) G2 Q E) E) E) : dMethV m tb ta t σ G Q E := h
theorem st_methVq (sp : SpD) (hl : lk m ns ds = none) (hm : (c, sp) ∈ tb) (h : t σ G (fun as G2 => sp (.obj c ns ds :: as) G2 Q E) E) : ∃ c' sp ns' ds', InsD G (.obj c ns ds) c' ns' ds' ∧ lk m ns' ds' = none ∧ (c', sp) ∈ tb ∧ t σ G (fun as G2 => sp (.obj c ns ds :: as) G2 Q E) E := ⟨c, sp, ns, ds, .obj c ns ds, hl, hm, h⟩
theorem st_makeK {fr : Bool} {n k : Nat} {perm : List Nat} (h : t σ G (fun ds G1 => tk σ G1 (fun zs G2 => ds.length = n ∧ zs.length = k ∧ ∀ p, G2 p = none → sp (pick perm (.ref p :: (ds ++ zs))) (gput G2 p (.ins c [] []))
  (fun v G3 => v = .non ∧ if fr = true then ∃ ns vs, G3 p = some (.ins c ns vs) ∧ Q (.obj c ns vs) (gdel G3 p) else Q (.ref p) G3) E) E) E) : dMakeK fr c n k perm sp t tk σ G Q E := h
end
end DL

namespace DL
open PySem PySem.Spec PyProof.Rows L2
open PySem.W (Frag)
section
variable {X : Cx} {W : WX} {o : Expr} {to : TED} {apos pos : Pos}
/-- x.bit_length() -/
def bitsI : D → HH → QD → Prop := uI fun i => .int (Builtin.Int.intBits i : Nat)
theorem de_bits (ho : DE X W o to) (hbase : attributeBase o "bit_length" X.env (eval o X.env) = eval o X.env := by rfl) (hline : (apos.endLine == pos.line) = true := by rfl) : DE X W (.Call (.Attribute o "bit_length" apos) [] [] pos) (dUn bitsI to) :=
  PE.imp (pe_bits ho hbase hline) fun σ H Q ⟨σD, G, QD, E, hR, hS, q, hq, he⟩ =>
    ⟨σD, G, _, E, hR, hS, q, fun v1 H1 d1 G1 s1 r1 p1 ⟨i, e, q1⟩ => by
      subst e; cases p1
      exact ⟨i, rfl, hq _ _ _ _ s1 r1 (.int _) q1⟩, he⟩
theorem st_bits {G : HH} {Q : QD} {i : Int} (h : Q (.int (Builtin.Int.intBits i : Nat)) G) : bitsI (.int i) G Q := ⟨i, rfl, h⟩
end
/-! ### how many bits -/
/-- below 2 ^ b, as a name of its own -/
@[irreducible] def Bt (b : Nat) (x : Int) : Prop := x.natAbs < 2 ^ b
theorem Bt.of {b : Nat} {x : Int} (h : x.natAbs < 2 ^ b) : Bt b x := by unfold Bt; exact h
theorem Bt.to {b : Nat} {x : Int} (h : Bt b x) : x.natAbs < 2 ^ b := by unfold Bt at h; exact h
theorem Bt.mono {a b : Nat} {x : Int} (h : Bt a x) (l : a ≤ b) : Bt b x := .of (Nat.lt_of_lt_of_le h.to (Nat.pow_le_pow_right (by decide) l))
theorem Bt.nat {b : Nat} {n : Nat} (h : n < 2 ^ b) : Bt b (n : Int) := .of (by rw [Int.natAbs_natCast]; exact h)
theorem Bt.neg {b : Nat} {x : Int} (h : Bt b x) : Bt b (-x) := .of (by rw [Int.natAbs_neg]; exact h.to)
theorem Bt.abs {b : Nat} {x : Int} (h : Bt b x) : Bt b (x.natAbs : Int) := .of (by rw [Int.natAbs_natCast]; exact h.to)
theorem Bt.add {a b : Nat} {x y : Int} (h : Bt a x) (k : Bt b y) : Bt (max a b + 1) (x + y) := by
  have h1 := (h.mono (Nat.le_max_left a b)).to
  have h2 := (k.mono (Nat.le_max_right a b)).to
  refine .of ?_
  rw [Nat.pow_succ]
  generalize 2 ^ max a b = B at *
  omega
theorem Bt.sub {a b : Nat} {x y : Int} (h : Bt a x) (k : Bt b y) : Bt (max a b + 1) (x - y) := by
  rw [Int.sub_eq_add_neg]; exact h.add k.neg
theorem Bt.mul {a b : Nat} {x y : Int} (h : Bt a x) (k : Bt b y) : Bt (a + b) (x * y) := by
  refine .of ?_
  rw [Int.natAbs_mul, Nat.pow_add]
  exact Nat.mul_lt_mul'' h.to k.to
theorem Bt.shl {a : Nat} {x : Int} (h : Bt a x) (n : Nat) : Bt (a + n) (x * 2 ^ n) := by
  refine .of ?_
  rw [Int.natAbs_mul, Nat.pow_add]
  have e : ((2 : Int) ^ n).natAbs = 2 ^ n := by rw [Int.natAbs_pow]; rfl
  rw [e]
  exact Nat.mul_lt_mul_of_pos_right h.to (Nat.two_pow_pos n)
theorem Bt.le {a : Nat} {x y : Int} (h : Bt a y) (l : x.natAbs ≤ y.natAbs) : Bt a x := .of (Nat.lt_of_le_of_lt l h.to)
theorem natAbs_div_le (x : Int) {y : Int} (h : 0 < y) : (x / y).natAbs ≤ x.natAbs := by
  have h1 : 0 ≤ x → 0 ≤ x / y ∧ x / y ≤ x := fun z => ⟨Int.ediv_nonneg z (by omega), Int.ediv_le_self y z⟩
  have h2 : x < 0 → x ≤ x / y ∧ x / y ≤ 0 := fun z => by
    refine ⟨Int.le_ediv_of_mul_le h ?_, ?_⟩
    · have q := Int.mul_nonneg (show 0 ≤ -x by omega) (show 0 ≤ y - 1 by omega)
      rw [Int.neg_mul, Int.mul_sub, Int.mul_one] at q
      omega
    · have q := Int.ediv_neg_of_neg_of_pos z h
      exact Int.le_of_lt q
  by_cases z : 0 ≤ x
  · have := h1 z; omega
  · have := h2 (by omega); omega
theorem Bt.div {a : Nat} {x : Int} (h : Bt a x) {y : Int} (k : 0 < y) : Bt a (x / y) := h.le (natAbs_div_le x k)
theorem Bt.mod {b : Nat} {x y : Int} (k : 0 < y) (h : Bt b y) : Bt b (x % y) := h.le (by
  have h1 := Int.emod_nonneg x (show y ≠ 0 by omega)
  have h2 := Int.emod_lt_of_pos x k
  omega)
theorem Bt.pow {a : Nat} {x : Int} (h : Bt a x) : ∀ n : Nat, Bt (a * n + 1) (x ^ n)
  | 0 => .of (by simp)
  | n + 1 => by
    rw [Int.pow_succ]
    exact (((Bt.pow h n).mul h).mono (by rw [Nat.mul_add]; omega))
theorem cmul_bt {a b : Nat} {x y : Int} (h : Bt a x) (k : Bt b y) (l : a + b ≤ 134217728) : CMulX x y := mulx_ok h.to k.to l
theorem cshl_bt {a n : Nat} {x : Int} (h : Bt a x) (l : a + n ≤ 134217728) : CShl x (n : Int) := shl_ok h.to l
theorem log2_lt_of {n b : Nat} (h : n < 2 ^ b) (hb : 0 < b) : n.log2 < b := by
  by_cases hz : n = 0
  · subst hz; exact hb
  · exact (Nat.log2_lt hz).mpr h
theorem cdiv_bt {a : Nat} {x y : Int} (h : 0 < y) (k : Bt a y) (l : a ≤ 9000) : CDivW x y := ⟨h, log2_lt_of (k.mono l).to (by decide)⟩
theorem cpow_bt {x : Int} {n : Nat} (h : Bt 64 x) (l : n ≤ 1000000) : CPow x (n : Int) := ⟨by omega, by omega, h.to⟩
theorem bt_two (n : Nat) : Bt (n + 1) ((2 : Int) ^ n) := .of (by
  rw [Int.natAbs_pow]
  exact Nat.pow_lt_pow_right (by decide) (by omega))
section
variable {G : HH} {Q : QD}
theorem eqD_nilL (xs : List D) : eqD (.lst xs) (.lst []) = xs.isEmpty := by cases xs <;> simp [eqD, D.pyd, PyData.eqv, pyds, PyData.eqvAll]
theorem eqD_nilT (xs : List D) : eqD (.tup xs) (.tup []) = xs.isEmpty := by cases xs <;> simp [eqD, D.pyd, PyData.eqv, pyds, PyData.eqvAll]
theorem st_neL0 {xs : List D} (h : gds 59 xs) (q : Q (.bl (!xs.isEmpty)) G) : eAny true (.lst xs) (.lst []) G Q := st_neD 60 (by rw [gd_lst]; exact h) (by simp [gd, gds]) (by decide) (by rw [eqD_nilL]; exact q)
theorem st_eqL0 {xs : List D} (h : gds 59 xs) (q : Q (.bl xs.isEmpty) G) : eAny false (.lst xs) (.lst []) G Q := st_eqD 60 (by rw [gd_lst]; exact h) (by simp [gd, gds]) (by decide) (by rw [eqD_nilL]; exact q)
theorem st_neT0 {xs : List D} (h : gds 59 xs) (q : Q (.bl (!xs.isEmpty)) G) : eAny true (.tup xs) (.tup []) G Q := st_neD 60 (by rw [gd_tup]; exact h) (by simp [gd, gds]) (by decide) (by rw [eqD_nilT]; exact q)
theorem st_eqT0 {xs : List D} (h : gds 59 xs) (q : Q (.bl xs.isEmpty) G) : eAny false (.tup xs) (.tup []) G Q := st_eqD 60 (by rw [gd_tup]; exact h) (by simp [gd, gds]) (by decide) (by rw [eqD_nilT]; exact q)
theorem gds_int {n : Nat} (xs : List Int) : gds n (xs.map D.int) := gds_map fun _ _ => by cases n <;> simp [gd]
theorem gds_dN {n : Nat} (xs : List Nat) : gds n (xs.map fun i : Nat => D.int (i : Int)) := gds_map fun _ _ => by cases n <;> simp [gd]
theorem st_neLI {xs : List Int} (q : Q (.bl (!xs.isEmpty)) G) : eAny true (.lst (xs.map D.int)) (.lst []) G Q := st_neL0 (gds_int xs) (by rw [show (xs.map D.int).isEmpty = xs.isEmpty by cases xs <;> rfl]; exact q)
theorem st_eqLI {xs : List Int} (q : Q (.bl xs.isEmpty) G) : eAny false (.lst (xs.map D.int)) (.lst []) G Q := st_eqL0 (gds_int xs) (by rw [show (xs.map D.int).isEmpty = xs.isEmpty by cases xs <;> rfl]; exact q)
end
/-! ### a cut: what holds where ways meet -/
section
variable {t : TSD} {σ : SD} {G : HH} {nx bk ct : SD → HH → Prop} {rt : QD} {ex : XD → SD → HH → Prop}
theorem st_cut (ks : List Nat) (I : List (Option D) → HH → Prop) (h : ∀ nx' : SD → HH → Prop, (∀ vs G', I vs G' → nx' (setL σ ks vs) G') → t ⟨nx', rt, bk, ct, ex⟩ σ G) (hc : ∀ vs G', I vs G' → nx (setL σ ks vs) G') : t ⟨nx, rt, bk, ct, ex⟩ σ G := h nx hc
theorem cut_fin {σ2 : SD} {ks : List Nat} {I : List (Option D) → HH → Prop} (hn : ∀ vs G', I vs G' → nx (setL σ ks vs) G') (e : σ2 = setL σ ks (getL σ2 ks)) (hI : I (getL σ2 ks) G) : nx σ2 G := by rw [e]; exact hn _ _ hI
end
section
variable {G : HH} {Q : QD} {T : String} {b : Bool}
theorem st_isiI {i : Int} (hk : kitB "int" T = some b) (h : Q (.bl b) G) : kIsi [.int i, .ty T] G Q := st_isi (.int i) hk h
theorem st_isiB {i : Bool} (hk : kitB "bool" T = some b) (h : Q (.bl b) G) : kIsi [.bl i, .ty T] G Q := st_isi (.bl i) hk h
theorem st_isiS {i : Str} (hk : kitB "str" T = some b) (h : Q (.bl b) G) : kIsi [.str i, .ty T] G Q := st_isi (.str i) hk h
theorem st_isiN (hk : kitB "NoneType" T = some b) (h : Q (.bl b) G) : kIsi [.non, .ty T] G Q := st_isi .non hk h
theorem st_isiT {xs : List D} (hk : kitB "tuple" T = some b) (h : Q (.bl b) G) : kIsi [.tup xs, .ty T] G Q := st_isi (.tup xs) hk h
theorem st_isiL {xs : List D} (hk : kitB "list" T = some b) (h : Q (.bl b) G) : kIsi [.lst xs, .ty T] G Q := st_isi (.lst xs) hk h
end
/-! ### making, by a name -/
def MkR (fr : Bool) (c : Str) (sp : SpD) (ds : List D) (G1 : HH) (Q : QD) (E : ED) : Prop := ∀ p, G1 p = none → sp (.ref p :: ds) (gput G1 p (.ins c [] []))
  (fun v G2 => v = .non ∧ if fr = true then ∃ ns vs, G2 p = some (.ins c ns vs) ∧ Q (.obj c ns vs) (gdel G2 p) else Q (.ref p) G2) E
def MkRK (fr : Bool) (c : Str) (n m : Nat) (perm : List Nat) (sp : SpD) (ds zs : List D) (G2 : HH) (Q : QD) (E : ED) : Prop := ds.length = n ∧ zs.length = m ∧ ∀ p, G2 p = none → sp (pick perm (.ref p :: (ds ++ zs))) (gput G2 p (.ins c [] []))
  (fun v G3 => v = .non ∧ if fr = true then ∃ ns vs, G3 p = some (.ins c ns vs) ∧ Q (.obj c ns vs) (gdel G3 p) else Q (.ref p) G3) E
section
variable {fr : Bool} {c : Str} {sp : SpD} {t tk : TAD} {σ : SD} {G : HH} {Q : QD} {E : ED} {n m : Nat} {perm : List Nat}
theorem st_mk (h : t σ G (fun ds G1 => MkR fr c sp ds G1 Q E) E) : dMake fr c sp t σ G Q E := h
theorem st_mkK (h : t σ G (fun ds G1 => tk σ G1 (fun zs G2 => MkRK fr c n m perm sp ds zs G2 Q E) E) E) : dMakeK fr c n m perm sp t tk σ G Q E := h
end
section
variable {σ : SD} {G : HH} {Q : QD} {E : ED} {ta tb tc : TED} {r r' : D → D → HH → QD → Prop}
theorem st_chainE {x y w : D} {k1 k2 : Bool} (ha : EvE ta σ G x) (hb : EvE tb σ G y) (hc : EvE tc σ G w) (h1 : ∀ Q : QD, Q (.bl k1) G → r x y G Q) (h2 : k1 = true → ∀ Q : QD, Q (.bl k2) G → r' y w G Q) (h : Q (.bl (k1 && k2)) G) : dChain r r' ta tb tc σ G Q E := by
  refine ha _ _ (hb _ _ (h1 _ ⟨k1, rfl, ?_⟩))
  cases k1
  · rw [if_neg Bool.false_ne_true]; exact h
  · rw [if_pos rfl]; exact hc _ _ (h2 rfl _ (by simpa using h))
end
theorem st_isim {x : D} {T : String} {G : HH} {Q : QD} (h : kIsi [x, .ty T] G Q) : kIsi [x, .ty T] G Q := h
theorem st_iteNT {A B : Prop} (q : B) : if (!true) = true then A else B := q
theorem st_iteNF {A B : Prop} (q : A) : if (!false) = true then A else B := q
/-- what is never asked -/
theorem FnG.no {P : Program} {w : World} {K : Frag} {mg : Str → Option Value} {base : Heap} {k : Nat} {f : Addr} {fd : FuncData} {ps : List Str} {sp : SpD} (h : ∀ ds G Q E, ¬ sp ds G Q E) : FnG P w K mg base k f fd ps sp :=
  ⟨fun ds G Q E z => absurd z (h ds G Q E), fun A outer s H args us vs Q E _ _ _ _ _ ⟨ds, G, QD, EX, _, _, z, _⟩ => absurd z (h ds G QD EX)⟩
end DL

namespace DL
open PySem PySem.Spec PyProof.Rows L2
open PySem.W (Frag)
/-! ### C() where no __init__ is written -/
structure MkN (K : Frag) (C : Addr) : Prop where
  makes : PySem.W.makesIn K C = true
  init : PySem.W.findIn K (.ref C) "__init__" = some (some (.builtin "object.__init__"))
  kp : PySem.W.keepIn K (.ref C) = true
section
variable {X : Cx} {W : WX} {C : Addr} {pos : Pos}
theorem run_makeN {pins : List (Addr × Obj)} {σ : L2.St} {H : Hp} {s : Shared} {Q : VK} (M : MkN X.K C) (I : Inv X pins σ H s)
    (h : ∀ x dx, H x = none → H dx = none → dx ≠ x → Q (.ref x) (upd (upd H dx (.own x)) x (.ins C dx []))) :
    wpAny (model X.prog X.w) X.A (call (.ref C) []) (EP X pins σ Q) X.xe s := by
  have hq := h (s.heap.objs.size + 1) s.heap.objs.size (I.hok.fresh (Nat.le_succ _)) (I.hok.fresh (Nat.le_refl _)) (Nat.ne_of_lt (Nat.lt_succ_self _))
  have I2 := Inv.made (C := C) I
  refine wpAny_call (make_map0 I.kIn M.makes M.init (fun self => PySem.W.Looks.of_pure (PySem.W.oi_bind self)) ?_)
  have Y := PySem.W.makes_of (M := model X.prog X.w) I.kIn M.makes
  have e2 : ((s.heap.push PySem.W.emptyDict).push (PySem.W.instObj C s.heap.objs.size)).get? (s.heap.objs.size + 1) = some (PySem.W.instObj C s.heap.objs.size) := by
    have z := Heap.get?_push_size (s.heap.push PySem.W.emptyDict) (o := PySem.W.instObj C s.heap.objs.size) rfl
    rwa [Heap.size_push] at z
  have t1 : PySem.W.Looks (model X.prog X.w) ((s.heap.push PySem.W.emptyDict).push (PySem.W.instObj C s.heap.objs.size)) (typeOf (.ref (s.heap.objs.size + 1))) (.ref C) := (PySem.W.Looks.ld e2).andThen .now
  have t2 : PySem.W.Looks (model X.prog X.w) ((s.heap.push PySem.W.emptyDict).push (PySem.W.instObj C s.heap.objs.size)) (isInstance (.ref (s.heap.objs.size + 1)) (.type "object")) true :=
    t1.andThen (Y.top.keeps fun b o e => Heap.get?_push_of_some _ (Heap.get?_push_of_some _ e))
  refine codeAny_call_builtin PySem.W.oi_plain PySem.W.entry_oi (@PySem.W.check_slot (model X.prog X.w) _ _ _ "object.__init__" "object" "__init__" (.ref (s.heap.objs.size + 1)) [] [] _ PySem.W.oi_kind PySem.W.oi_split t2 (PySem.W.oi_args (.ref (s.heap.objs.size + 1))) ?_)
  rw [PySem.W.oi_run]
  exact wpAny_pure ⟨rfl, ⟨V.ref (s.heap.objs.size + 1), _, I2, rfl, hq⟩⟩
def dNew (c : Str) : TED := fun _ G Q _ => Q (.obj c [] []) G
theorem de_new {c x : Str} {p : Pos} (hC : gaddr X.K c = some C) (M : MkN X.K C) (hg : Gl X x) (hm : X.mg x = some (.ref C))
    (hdb : (x == ("__debug__" : Str)) = false := by decide) : DE X W (.Call (.Name x p) [] [] pos) (dNew c) := by
  refine ⟨fun pins s σ H Q I ⟨σD, G, QD, E, hR, hS, q, hq, hE⟩ => ?_⟩
  refine wpAny_Call_Name_kw (ld_glob I hg hm ?_ hdb)
  refine PySem.W.callWith_K0 I.kIn M.kp (run_makeN M I fun x dx hx hdx hne => ?_)
  have s2 := Stp.new (G := G) (o := .own x) hdx
  have r2 := hR.new (o := .own x) hdx
  have hx2 : (upd H dx (.own x)) x = none := by rw [upd_ne (fun z => hne z.symm)]; exact hx
  have s3 := Stp.new (G := G) (o := .ins C dx []) hx2
  have r3 := r2.new (o := .ins C dx []) hx2
  exact hq _ _ _ _ (s2.trans s3) r3 (Rp.obj (ns := []) (xs := []) hC upd_same (hR.free hx) rfl .nil) q
theorem st_new {σ : SD} {G : HH} {Q : QD} {E : ED} {c : Str} (q : Q (.obj c [] []) G) : dNew c σ G Q E := q
end
theorem st_eqDiff {x y : Str} {A B : Prop} (h : ¬ x = y) (q : B) : if decide (x = y) = true then A else B := by rw [decide_eq_false h, if_neg Bool.false_ne_true]; exact q
theorem st_neDiff {x y : Str} {A B : Prop} (h : ¬ x = y) (q : A) : if (!decide (x = y)) = true then A else B := by rw [decide_eq_false h]; exact q
end DL

namespace DL
open PySem PySem.Spec PyProof.Rows L2
open PySem.W (Frag)
section
variable {X : Cx} {W : WX} {pos : Pos}
/-- a, b, .. = a list of that length -/
def gdLst (n : Nat) (t : TGsD) : TGD := fun d σ G Q => ∃ ds, LsW G d ds ∧ ds.length = n ∧ t ds σ G Q
theorem dg_lst {es : List Expr} {k n : Nat} {tG : TGsD} (hc : X.calm = true) (h : DGs X es tG) (hn : (assignEach es X.env).length = n := by rfl) (hst : (assignEach es X.env).findIdx? (·.1) = none := by rfl) : DG X (.Tuple es k pos) (gdLst n tG) :=
  PG.imp (pg_lst hc h hn hst) fun v σ H Q ⟨d, σD, G, QD, hR, hS, p, ⟨ds, e, l, q⟩, hq⟩ => by
    obtain ⟨a, vs, e1, hs, r⟩ := e.of hR p
    exact ⟨a, vs, e1, hs, by rw [← r.length]; exact l, ds, σD, G, QD, hR, hS, r, q, hq⟩
end
theorem st_glst {n : Nat} {ds : List D} {tG : TGsD} {σ : SD} {G : HH} {N : SD → HH → Prop} (hl : ds.length = n) (h : tG ds σ G N) : gdLst n tG (.lst ds) σ G N := ⟨ds, .lst _, hl, h⟩
theorem st_glstR {n : Nat} {p : Addr} {ds : List D} {tG : TGsD} {σ : SD} {G : HH} {N : SD → HH → Prop} (e : G p = some (.lst ds)) (hl : ds.length = n) (h : tG ds σ G N) : gdLst n tG (.ref p) σ G N := ⟨ds, .ref e, hl, h⟩
end DL

namespace DL
open PySem PySem.Spec PyProof.Rows L2
open PySem.W (Frag)
/-- isinstance's table at one class, in parts that k_is knows -/
theorem kit_same {K : Frag} {t c : Value} (e : (t == c) = true) : PySem.W.kitOne K t c = some true := by
  unfold PySem.W.kitOne
  rw [if_pos e]
theorem kit_ref {K : Frag} {t : Value} {C : Addr} {b : Bool} (e : (t == .ref C) = false) (h1 : (PySem.W.clsIn K C).isSome = true) (h2 : PySem.W.typeIn K (.ref C) = some (.type "type")) (h3 : PySem.W.subIn K t (.ref C) = some b) : PySem.W.kitOne K t (.ref C) = some b := by
  unfold PySem.W.kitOne
  rw [e, if_neg Bool.false_ne_true]
  show (if ((PySem.W.clsIn K C).isSome && PySem.W.typeIn K (.ref C) == some (.type "type")) = true then PySem.W.subIn K t (.ref C) else none) = some b
  rw [h1, h2, if_pos (by first | rfl | decide)]
  exact h3
/-! ### o.f(..): a field that is called -/
section
variable {X : Cx} {W : WX} {e o : Expr} {es : List Expr} {to : TED} {t : TAD} {pos apos : Pos}
theorem getfldm_ok {pins : List (Addr × Obj)} {s : Shared} {σ : L2.St} {H : Hp} {a C dx : Addr} {fs : List (Str × V)} {f : Str} {v : V} {A : Around} {E : Value → Shared → Prop} {pl : Sem Bool} {Q : Value × List Value → Shared → Prop} (I : Inv X pins σ H s) (h : H a = some (.ins C dx fs)) (c : Cls X.K C) (n : NoAttr X.K C f) (l : fs.lookup f = some v) (q : ∀ u s', Inv X pins σ H s' → RelV v u → Q (u, []) s') :
    wpAny (model X.prog X.w) A (getMethod (.ref a) f pl) Q E s := by
  obtain ⟨mA, O, _⟩ := ins_get I.hok h
  obtain ⟨od, J, hl⟩ := O.look
  exact PySem.W.method_usual (r := none) I.kIn J (PySem.W.plainGet_of (c.get f)).1 (PySem.W.plainGet_of (c.get f)).2 n rfl (getattr_ok I h c n l q)
theorem run_callV {pins : List (Addr × Obj)} {s1 : Shared} {σ : L2.St} {H1 : Hp} {σD : SD} {G1 : HH} {Q : VK} {QD : QD} {E : ED} {u : Value} {x : V} {d : D} {k : Nat} {tbo tbf : List (Str × SpD)} (ho : CTab X k tbo) (hf : FTab X k tbf) (hgd : X.A.guards = some []) (hr : Room k X.A) (tk : Takes X W) (ha : DA X W (e :: es) t)
    (I1 : Inv X pins σ H1 s1) (rx : RelV x u) (r1 : RelH X.K H1 G1) (hS : SRp X.K H1 G1 σD σ) (p1 : Rp X.K H1 G1 d x)
    (z : (∃ c sp ns ds, InsD G1 d c ns ds ∧ (c, sp) ∈ tbo ∧ t σD G1 (fun as G2 => (∃ ns ds, InsD G2 d c ns ds) ∧ sp (d :: as) G2 QD E) E) ∨ ∃ c sp, d = .gv c ∧ (c, sp) ∈ tbf ∧ t σD G1 (fun as G2 => sp as G2 QD E) E)
    (hq : Ct X.K H1 G1 Q QD) (hE : Exs X.K W σ H1 G1 E)
    (he : starEach (e :: es) X.env = (false, eval e X.env) :: starEach es X.env := by rfl) (hpl : (backTo pos (starEach es X.env)).any (·.1) = false := by rfl) :
    wpAny (model X.prog X.w) X.A (callWith pos u [] (backTo pos (starEach (e :: es) X.env)) []) (EP X pins σ Q) X.xe s1 := by
  have ha' : PA X (e :: es) (lftA X.K W t) := ha
  rcases z with ⟨c, sp, ns0, ds0, hi0, hm, q1⟩ | ⟨c, sp, rfl, hm, q1⟩
  · obtain ⟨C, g, fd, ps, hC, co, F, hb⟩ := ho _ hm
    obtain ⟨a, _, _, _, ex, _, _, _, _⟩ := hi0.of r1 p1
    subst ex
    obtain rfl : u = Value.ref a := rx
    refine StX.callO_with (thn (ha'.run pos pins s1 σ H1 (fun vs H2 => (∃ dx fs, H2 a = some (.ins C dx fs)) ∧ lsp X.K sp (.ref a :: vs) H2 Q (WE W σ)) I1 ⟨σD, G1, _, E, r1, hS, q1, fun vs H2 as G2 s2 r2 p2 ⟨⟨ns, ds, hi⟩, q2⟩ => ?_, hE⟩) fun us s2 ⟨vs, H2, I2, r, ⟨dx2, fs2, hi2⟩, q2⟩ => ?_) he hpl
    · have p3 := p1.mono s2
      obtain ⟨b, C', dx, xs, ex, h1, h2, h3, h4⟩ := hi.of r2 p3
      cases ex
      have hCC : C' = C := by rw [hC] at h1; exact (Option.some.inj h1).symm
      subst hCC
      exact ⟨⟨_, _, h2⟩, d :: as, G2, QD, E, r2, .cons p3 p2, q2, hq.mono s2, fun xd cls d' H' G' s' r' p' z' => hE _ _ _ _ _ (s2.trans s') r' p' z'⟩
    · obtain ⟨ox, od, J, hd⟩ := StX.insC_at I2 (Or.inr ⟨_, _, hi2⟩)
      refine ⟨⟨C, ox, od, J, hd⟩, ?_⟩
      have rv : Vals (V.ref a :: vs) (Value.ref a :: us) := .cons (vref a) r
      have hl : (Value.ref a :: us).length = ps.length := by rw [← rv.length]; exact F.llen q2
      have b := hb s2 (Value.ref a :: us) I2.kIn (by rw [List.append_nil]; exact hl)
      rw [List.append_nil] at b
      refine wpAny_call (PySem.W.kco_code I2.kIn J hd co.at_ co.fn co.fi (codeAny_mono (run_any F hgd hr tk I2 b rv q2) fun r s' hq' => ?_))
      cases r with
      | error e => exact hq'
      | ok fl =>
        cases fl with
        | ret u => exact hq'
        | next => exact False.elim hq'
        | brk => exact False.elim hq'
        | cont => exact False.elim hq'
  · obtain ⟨f, fd, ps, hC, hk, F, hb⟩ := hf _ hm
    cases p1 with
    | gv e1 =>
      rename_i a
      have hCC : a = f := by rw [show gaddr X.K c = some f from hC] at e1; exact (Option.some.inj e1).symm
      subst hCC
      obtain rfl : u = Value.ref a := rx
      refine PySem.W.callWith_K (first := []) (h₀ := X.base) I1.ok.mod.kin hk (thn (ha'.run pos pins s1 σ H1 (fun vs H2 => lsp X.K sp vs H2 Q (WE W σ)) I1 ⟨σD, G1, _, E, r1, hS, q1, fun vs H2 as G2 s2 r2 p2 q2 => ?_, hE⟩) fun us s2 ⟨vs, H2, I2, r, q2⟩ => ⟨I2.kIn, ?_⟩) he hpl
      · exact ⟨as, G2, QD, E, r2, p2, q2, hq.mono s2, fun xd cls d' H' G' s' r' p' z' => hE _ _ _ _ _ (s2.trans s') r' p' z'⟩
      · exact run_call F hgd hr hb tk I2 r q2
theorem de_callF {cs : List Str} {m : Str} {k : Nat} {tbo tbf : List (Str × SpD)} {pl : Sem Bool} (hF : FldOk X.K cs m) (ho : CTab X k tbo) (hf : FTab X k tbf) (hgd : X.A.guards = some []) (hr : Room k X.A) (tk : Takes X W) (hoe : DE X W o to) (ha : DA X W (e :: es) t)
    (hst : starEach (e :: es) X.env = (false, eval e X.env) :: starEach es X.env := by rfl) (hpl : (backTo pos (starEach es X.env)).any (·.1) = false := by rfl)
    (ht : eval (.Call (.Attribute o m apos) (e :: es) [] pos) X.env = (do
      let ov ← eval o X.env
      standAt apos.atName
      let (f, first) ← holding [ov] (getMethod ov m pl)
      callWith pos f first (backTo pos (starEach (e :: es) X.env)) (backToKw pos (keywordEach [] X.env))) := by rfl) :
    DE X W (.Call (.Attribute o m apos) (e :: es) [] pos) (dCallV tbo tbf (dFld cs m to) t) := by
  have ho' : PE X o (lft X.K W to) := hoe
  refine ⟨fun pins s σ H Q I ⟨σD, G, QD, E, hR, hS, q, hq, hE⟩ => ?_⟩
  refine PySem.W.methodCall_KW (pl := pl) (thn (ho'.run pins s σ H (fun v H1 => ∃ d G1, Stp H G H1 G1 ∧ RelH X.K H1 G1 ∧ Rp X.K H1 G1 d v ∧ ∃ c ns ds d', InsD G1 d c ns ds ∧ c ∈ cs ∧ lk m ns ds = some d' ∧ ((∃ c sp ns ds, InsD G1 d' c ns ds ∧ (c, sp) ∈ tbo ∧ t σD G1 (fun as G2 => (∃ ns ds, InsD G2 d' c ns ds) ∧ sp (d' :: as) G2 QD E) E) ∨ ∃ c sp, d' = .gv c ∧ (c, sp) ∈ tbf ∧ t σD G1 (fun as G2 => sp as G2 QD E) E)) I ⟨σD, G, _, E, hR, hS, q, fun v H1 d G1 s1 r1 p1 z => ⟨d, G1, s1, r1, p1, z⟩, hE⟩) fun u s1 ⟨x, H1, I1, rx, d, G1, s1', r1, p1, c, ns, ds, d', hi, hc, hl, z⟩ => ?_) ht
  obtain ⟨a, C, dx, xs, rfl, h1, h2, h3, h4⟩ := hi.of r1 p1
  rcases lk_zip (f := m) h4 h3 with ⟨y, _⟩ | ⟨d2, v, e1, e2, p2⟩
  · rw [hl] at y; cases y
  · rw [hl] at e1; cases e1
    obtain ⟨k1, k2⟩ := hF c hc C h1
    obtain rfl : u = Value.ref a := rx
    exact getfldm_ok I1 h2 k1 k2 e2 fun u' s2 I2 ru => run_callV ho hf hgd hr tk ha I2 ru r1 (hS.mono s1') p2 z (hq.mono s1') (hE.mono s1') hst hpl
end
end DL

namespace DL
open PySem PySem.Spec PyProof.Rows L2
open PySem.W (Frag)
section
variable {X : Cx}
/-- sorted(ints) -/
def kSortI : RCD := c1 fun x G Q => ∃ ns : List Int, LsW G x (ns.map D.int) ∧ ∀ ms : List Int, ms.Perm ns → ms.Pairwise (· ≤ ·) → Q (.lst (ms.map D.int)) G
theorem cSortI : CallD X (.builtin "sorted") kSortI := ⟨_, cr_sortedI, fun xs H Q ds G QD hR hp ⟨x, e, ns, s, q⟩ hq => by
  subst e
  obtain ⟨v, rfl, p⟩ := rps1 hp
  obtain ⟨a, vs, rfl, h, r⟩ := s.of hR p
  rw [r.ints] at h
  exact ⟨a, ns, rfl, h, fun ns' l hp hs hl => hq.lst hR hl (Rps.of_ints ns') (q ns' hp hs)⟩⟩
end
theorem st_sortI {G : HH} {Q : QD} {x : D} {ns : List Int} (h : LsW G x (ns.map D.int)) (q : ∀ ms : List Int, ms.Perm ns → ms.Pairwise (· ≤ ·) → Q (.lst (ms.map D.int)) G) : kSortI [x] G Q := ⟨x, rfl, ns, h, q⟩
/-- a comprehension that takes nothing -/
theorem lc_none {σ : SD} {G : HH} {Q : QD} {ok : HH → Prop} {g : Tgt} {tt : TTD} {te : TED} {vs : List Nat} {α : Type} {xs : List α} {c : α → D} (hok : ∀ p acc, G p = none → ok (gput G p (.lst acc))) (hl : xs.length ≤ sizeLine)
    (hs : ∀ a, a ∈ xs → ∀ p acc, G p = none → ∃ σ2, g.put (c a) (wipeD σ vs) = some σ2 ∧ EvT tt σ2 (gput G p (.lst acc)) false) (hq : Q (.lst []) G) : LcG true (xs.map c) ok g tt te vs σ G Q :=
  lc_ev (k := fun _ => false) (f := fun _ => .non) hok hl (fun a ha p acc hp => (hs a ha p acc hp).imp fun σ2 h => ⟨h.1, h.2, fun z => by cases z⟩) (by
    rw [show xs.filter (fun _ => false) = [] from List.filter_eq_nil_iff.mpr (by simp)]
    exact hq)
theorem atI_cons {x : D} {xs : List D} : atI (x :: xs) 0 = some x := by
  unfold atI
  have : ixN (x :: xs).length 0 = some 0 := by
    unfold ixN
    simp
  rw [this]
  rfl
theorem dcut_init (xs : List D) (y : D) : dcut (xs ++ [y]) none (some (-1)) = xs := by
  unfold dcut HT.sIx
  simp
  rw [show (-1 + ((xs.length : Int) + 1)).toNat = xs.length by omega, List.take_append_of_le_length (Nat.le_refl _), List.take_length]
theorem scs_ints : ∀ l : List Int, scs (l.map D.int) = some (l.map V.int)
  | [] => rfl
  | x :: l => by
    rw [List.map_cons, scs, scs_ints l]
    rfl
theorem inV_ints (z : Int) (l : List Int) : inV (.int z) (l.map V.int) = decide (z ∈ l) := by
  induction l with
  | nil => simp [inV]
  | cons x l ih =>
    simp only [inV, List.map_cons, List.any_cons] at ih ⊢
    rw [ih]
    show ((x == z) || _) = _
    by_cases h : x = z
    · subst h; simp
    · have h' : ¬ z = x := fun z => h z.symm
      simp [h, h']
theorem st_inI {G : HH} {Q : QD} {z : Int} {y : D} {l : List Int} (h : Sq G y (l.map D.int)) (q : Q (.bl (decide (z ∈ l))) G) : iAny false (.int z) y G Q :=
  .inl ⟨_, _, _, h, rfl, scs_ints l, by rw [if_neg Bool.false_ne_true, inV_ints]; exact q⟩
theorem st_notInI {G : HH} {Q : QD} {z : Int} {y : D} {l : List Int} (h : Sq G y (l.map D.int)) (q : Q (.bl (!decide (z ∈ l))) G) : iAny true (.int z) y G Q :=
  .inl ⟨_, _, _, h, rfl, scs_ints l, by rw [if_pos rfl, inV_ints]; exact q⟩
theorem st_ne00 {G : HH} {Q : QD} (q : Q (.bl false) G) : eAny true (.lst []) (.lst []) G Q := st_neLI (xs := []) q
theorem st_eq00 {G : HH} {Q : QD} (q : Q (.bl true) G) : eAny false (.lst []) (.lst []) G Q := st_eqLI (xs := []) q
end DL

namespace DL
open PySem PySem.Spec PyProof.Rows L2
open PySem.W (Frag)
/-- what stood there stands there -/
def Kp (G G' : HH) : Prop := ∀ b, G b ≠ none → G' b = G b
theorem Kp.refl {G : HH} : Kp G G := fun _ _ => rfl
theorem Kp.trans {G G1 G2 : HH} (a : Kp G G1) (b : Kp G1 G2) : Kp G G2 := fun c h => (b c (by rw [a c h]; exact h)).trans (a c h)
theorem Kp.at {G G' : HH} (a : Kp G G') {p : Addr} {o : HOD} (h : G p = some o) : G' p = some o := (a p (by rw [h]; simp)).trans h
theorem Kp.new {G : HH} {p : Addr} {o : HOD} (h : G p = none) : Kp G (gput G p o) := fun b hb => gput_ne fun e => hb (by rw [e]; exact h)
theorem Kp.put {G G1 : HH} {p : Addr} {o : HOD} (a : Kp G G1) (h : G p = none) : Kp G (gput G1 p o) := fun b hb => (gput_ne fun e => hb (by rw [e]; exact h)).trans (a b hb)
theorem Kp.del {G G1 : HH} {p : Addr} (a : Kp G G1) (h : G p = none) : Kp G (gdel G1 p) := fun b hb => (gdel_ne fun e => hb (by rw [e]; exact h)).trans (a b hb)
/-- .. but for p -/
def Bk (p : Addr) (G G' : HH) : Prop := ∀ b, b ≠ p → G b ≠ none → G' b = G b
theorem Bk.refl {p : Addr} {G : HH} : Bk p G G := fun _ _ _ => rfl
theorem Bk.trans {p : Addr} {G G1 G2 : HH} (a : Bk p G G1) (b : Bk p G1 G2) : Bk p G G2 := fun c h k => (b c h (by rw [a c h k]; exact k)).trans (a c h k)
theorem Bk.at {p : Addr} {G G' : HH} (a : Bk p G G') {q : Addr} {o : HOD} (n : q ≠ p) (h : G q = some o) : G' q = some o := (a q n (by rw [h]; simp)).trans h
theorem But.bk {p : Addr} {G G' : HH} (a : But p G G') : Bk p G G' := fun b h _ => a b h
theorem Kp.bk {p : Addr} {G G' : HH} (a : Kp G G') : Bk p G G' := fun b _ h => a b h
section
variable {σ : SD} {G : HH} {Q : QD} {ok : HH → Prop} {g : Tgt} {tt : TTD} {te : TED} {vs : List Nat}
/-- a comprehension, by an invariant -/
theorem lc_gen {α : Type} {xs : List α} {c : α → D} (I : List α → List D → HH → Prop) (hl : xs.length ≤ sizeLine)
    (hI : ∀ pre acc G' G'' q, G q = none → (∀ b, b ≠ q → G'' b = G' b) → I pre acc G' → I pre acc G'') (h0 : I [] [] G)
    (hok : ∀ pre acc G', I pre acc G' → ok G')
    (hs : ∀ pre a post G' acc p, G p = none → xs = pre ++ a :: post → I pre acc G' → G' p = some (.lst acc) → ∃ σ2, g.put (c a) (wipeD σ vs) = some σ2 ∧
      ∀ (KT : D → HH → Prop) (KF : HH → Prop), (∀ y G4, G4 p = some (.lst acc) → I (pre ++ [a]) (acc ++ [y]) G4 → KT y G4) → (∀ G3, G3 p = some (.lst acc) → I (pre ++ [a]) acc G3 → KF G3) →
      tt σ2 G' (fun b G3 => if b = true then te σ2 G3 KT (fun _ _ => False) else KF G3) (fun _ _ => False))
    (hq : ∀ acc G', I xs acc G' → acc.length ≤ xs.length → Q (.lst acc) G') : LcG true (xs.map c) ok g tt te vs σ G Q := by
  intro p hp
  refine ⟨fun pre G' => ∃ ys acc, pre = ys.map c ∧ ys <+: xs ∧ G' p = some (.lst acc) ∧ acc.length ≤ ys.length ∧ I ys acc G', ⟨[], [], rfl, List.nil_prefix, gput_same, Nat.le_refl _, hI _ _ _ _ p hp (fun b h => gput_ne h) h0⟩, ?_, ?_, ?_⟩
  · rintro pre G' ⟨ys, acc, rfl, _, _, _, h⟩
    exact hok _ _ _ h
  · rintro pre x post G' e ⟨ys, acc, rfl, ⟨zs, rfl⟩, h1, h2, h3⟩
    rw [List.map_append] at e
    have e := List.append_cancel_left e
    cases zs with
    | nil => cases e
    | cons a zs =>
      rw [List.map_cons] at e
      injection e with e1 e2
      subst e1
      obtain ⟨σ2, a1, a2⟩ := hs ys a zs G' acc p hp rfl h3 h1
      have hpre : ys ++ [a] <+: ys ++ a :: zs := ⟨zs, by simp⟩
      refine ⟨σ2, a1, a2 _ _ (fun y G4 b1 b2 => ⟨acc, b1, ?_, ys ++ [a], acc ++ [y], by simp, hpre, gput_same, by simp; omega, hI _ _ _ _ p hp (fun b h => gput_ne h) b2⟩) (fun G3 b1 b2 => ⟨ys ++ [a], acc, by simp, hpre, b1, by simp; omega, b2⟩)⟩
      have := hl
      rw [List.length_append, List.length_cons] at this
      omega
  · rintro G' ⟨ys, acc, e, hp', h1, h2, h3⟩
    have hlen : ys.length = xs.length := by
      have := congrArg List.length e
      simpa using this.symm
    have : ys = xs := hp'.eq_of_length hlen
    subst this
    refine ⟨acc, h1, ?_⟩
    rw [if_pos rfl]
    exact hq acc _ (hI _ _ _ _ p hp (fun b h => gdel_ne h) h3) h2
/-- .. whose parts leave things behind -/
theorem lc_kp {α : Type} {xs : List α} {c : α → D} (k : α → Bool) (f : α → D) (hl : xs.length ≤ sizeLine) (hok : ∀ G', Kp G G' → ok G')
    (hs : ∀ a, a ∈ xs → ∀ G', Kp G G' → ∃ σ2, g.put (c a) (wipeD σ vs) = some σ2 ∧ ∀ (KT : D → HH → Prop) (KF : HH → Prop), (k a = true → ∀ G4, Kp G' G4 → KT (f a) G4) → (k a = false → ∀ G3, Kp G' G3 → KF G3) →
      tt σ2 G' (fun b G3 => if b = true then te σ2 G3 KT (fun _ _ => False) else KF G3) (fun _ _ => False))
    (hq : ∀ G', Kp G G' → Q (.lst ((xs.filter k).map f)) G') : LcG true (xs.map c) ok g tt te vs σ G Q := by
  refine lc_gen (fun pre acc G' => acc = (pre.filter k).map f ∧ Kp G G') hl (fun pre acc G' G'' q hq' hb ⟨h1, h2⟩ => ⟨h1, fun b hn => (hb b fun e => hn (e ▸ hq')).trans (h2 b hn)⟩) ⟨rfl, .refl⟩ (fun _ _ G' h => hok G' h.2) ?_ ?_
  · rintro pre a post G' acc p hp rfl ⟨rfl, hk⟩ hG
    obtain ⟨σ2, a1, a2⟩ := hs a (by simp) G' hk
    refine ⟨σ2, a1, fun KT KF b1 b2 => a2 KT KF (fun e G4 h4 => b1 _ _ (h4.at hG) ⟨?_, hk.trans h4⟩) (fun e G3 h3 => b2 _ (h3.at hG) ⟨?_, hk.trans h3⟩)⟩
    · rw [List.filter_append, List.map_append]; simp [e]
    · rw [List.filter_append, List.map_append]; simp [e]
  · rintro acc G' ⟨rfl, hk⟩ _
    exact hq G' hk
theorem lc_kpN {α : Type} {xs : List α} {c : α → D} (hl : xs.length ≤ sizeLine) (hok : ∀ G', Kp G G' → ok G')
    (hs : ∀ a, a ∈ xs → ∀ G', Kp G G' → ∃ σ2, g.put (c a) (wipeD σ vs) = some σ2 ∧ ∀ QT : Bool → HH → Prop, (∀ G3, Kp G' G3 → QT false G3) → tt σ2 G' QT (fun _ _ => False))
    (hq : ∀ G', Kp G G' → Q (.lst []) G') : LcG true (xs.map c) ok g tt te vs σ G Q :=
  lc_kp (fun _ => false) (fun _ => .non) hl hok (fun a ha G' hk => (hs a ha G' hk).imp fun σ2 h => ⟨h.1, fun KT KF _ h2 => h.2 _ fun G3 h3 => by rw [if_neg Bool.false_ne_true]; exact h2 rfl G3 h3⟩) (fun G' hk => by
    rw [show xs.filter (fun _ => false) = [] from List.filter_eq_nil_iff.mpr (by simp)]
    exact hq G' hk)
end
theorem LsW.kp {G G' : HH} {x : D} {xs : List D} (h : Kp G G') (l : LsW G x xs) : LsW G' x xs := by
  cases l with
  | lst => exact .lst _
  | wls => exact .wls _
  | ref e => exact .ref (h.at e)
theorem LsW.bk {p : Addr} {G G' : HH} {q : Addr} {xs : List D} (h : Bk p G G') (n : q ≠ p) (l : LsW G (.ref q) xs) : LsW G' (.ref q) xs := by
  cases l with
  | ref e => exact .ref (h.at n e)
end DL

namespace DL
open PySem PySem.Spec PyProof.Rows L2
open PySem.W (Frag)
/-! ### o.m(.., k = ..), o of one of several classes -/
section
variable {X : Cx} {W : WX} {e o : Expr} {es : List Expr} {kws : List Keyword} {to : TED} {t tk : TAD} {pos apos : Pos}
def MTabK (X : Cx) (k : Nat) (m : Str) (n : Nat) (ks : List Str) (perm : List Nat) (tb : List (Str × SpD)) : Prop := ∀ p ∈ tb, ∃ C f fd ps, gaddr X.K p.1 = some C ∧ Cls X.K C ∧ Meth X.K C m f ∧ FnG X.prog X.w X.K X.mg X.base k f fd ps p.2 ∧ KBd X.K fd ps (n + 1) ks perm
def dMethVK (m : Str) (n l : Nat) (perm : List Nat) (tb : List (Str × SpD)) (ta : TED) (t tk : TAD) : TED := fun σ G Q E => ta σ G (fun x G1 => ∃ c sp ns ds, InsD G1 x c ns ds ∧ lk m ns ds = none ∧ (c, sp) ∈ tb ∧ t σ G1 (fun as G2 => tk σ G2 (fun zs G3 => as.length = n ∧ zs.length = l ∧ sp (pick perm (x :: (as ++ zs))) G3 Q E) E) E) E
theorem de_methVK0 {m : Str} {k l : Nat} {ks : List Str} {perm : List Nat} {tb : List (Str × SpD)} {pl : Sem Bool} (hT : MTabK X k m 0 ks perm tb) (hgd : X.A.guards = some []) (hr : Room k X.A) (tkw : Takes X W) (ho : DE X W o to) (hkw : DK X W kws tk)
    (hlen : ks.length = l := by rfl) (hall : (backToKw pos (keywordEach kws X.env)).all (·.1.isSome) = true := by rfl) (hks : (backToKw pos (keywordEach kws X.env)).filterMap (·.1) = ks := by rfl)
    (hpl : ((backTo pos (starEach [] X.env)).any (·.1) || (backToKw pos (keywordEach kws X.env)).any (·.1.isNone)) = false := by rfl)
    (ht : eval (.Call (.Attribute o m apos) [] kws pos) X.env = (do
      let ov ← eval o X.env
      standAt apos.atName
      let (f, first) ← holding [ov] (getMethod ov m pl)
      callWith pos f first (backTo pos (starEach [] X.env)) (backToKw pos (keywordEach kws X.env))) := by rfl) :
    DE X W (.Call (.Attribute o m apos) [] kws pos) (dMethVK m 0 l perm tb to dNil tk) := by
  subst hlen
  have hkw' : PK X kws (lftA X.K W tk) := hkw
  have ho' : PE X o (lft X.K W to) := ho
  refine ⟨fun pins s σ H Q I ⟨σD, G, QD, E, hR, hS, q, hq, hE⟩ => ?_⟩
  refine PySem.W.methodCall_KW (pl := pl) (thn (ho'.run pins s σ H (fun v H1 => ∃ d G1, Stp H G H1 G1 ∧ RelH X.K H1 G1 ∧ Rp X.K H1 G1 d v ∧ ∃ c sp ns ds, InsD G1 d c ns ds ∧ lk m ns ds = none ∧ (c, sp) ∈ tb ∧ tk σD G1 (fun zs G3 => ([] : List D).length = 0 ∧ zs.length = ks.length ∧ sp (pick perm (d :: ([] ++ zs))) G3 QD E) E) I ⟨σD, G, _, E, hR, hS, q, fun v H1 d G1 s1 r1 p1 z => ⟨d, G1, s1, r1, p1, z⟩, hE⟩) fun u s1 ⟨x, H1, I1, rx, d, G1, s1', r1, p1, c, sp, ns, ds, hi, hl, hm, q1⟩ => ?_) ht
  obtain ⟨a, C', dx, xs, ex, h1, h2, h3, h4⟩ := hi.of r1 p1
  obtain ⟨C, f, fd, ps, hC, hcl, hme, F, hb⟩ := hT _ hm
  have hCC : C' = C := by rw [hC] at h1; exact (Option.some.inj h1).symm
  subst hCC
  subst ex
  obtain rfl : u = Value.ref a := rx
  have hl' : (ns.zip xs).lookup m = none := by
    rcases lk_zip (f := m) h4 h3 with ⟨_, z⟩ | ⟨d', v, e1, _, _⟩
    · exact z
    · rw [hl] at e1; cases e1
  refine getmeth_ok I1 h2 hcl hme hl' ?_
  refine PySem.W.callWith_KW0 (first := [.ref a]) (h₀ := X.base) I.ok.mod.kin hme.kp hall (thn (hkw'.run pos pins s1 σ H1 (fun zs H2 => zs.length = ks.length ∧ lsp X.K sp (pick perm (V.ref a :: zs)) H2 Q (WE W σ)) I1 ⟨σD, G1, _, E, r1, hS.mono s1', q1, fun zs H2 as G2 s2 r2 p2 ⟨_, l2, q2⟩ => ?_, hE.mono s1'⟩) fun ws s2 ⟨zs, H2, I2, rz, l2, q2⟩ => ⟨I2.kIn, ?_⟩) hpl
  · exact ⟨by rw [← p2.length]; exact l2, pick perm (d :: as), G2, QD, E, r2, Rps.pick (.cons (p1.mono s2) p2), by simpa using q2, hq.mono (s1'.trans s2), fun xd cls d' H' G' s' r' p' z' => hE _ _ _ _ _ ((s1'.trans s2).trans s') r' p' z'⟩
  · rw [hks]
    exact run_callK F hgd hr hb tkw I2 (us := [Value.ref a]) (vs := V.ref a :: zs) (.cons rfl rz) rfl (by rw [← rz.length]; exact l2) q2
theorem MTabK.nil {k n : Nat} {m : Str} {ks : List Str} {perm : List Nat} : MTabK X k m n ks perm [] := fun _ h => by cases h
theorem MTabK.cons {j k n : Nat} {m c : Str} {ks : List Str} {perm : List Nat} {tb : List (Str × SpD)} {sp : SpD} {C f : Addr} {fd : FuncData} {ps : List Str} (hC : gaddr X.K c = some C) (cl : Cls X.K C) (me : Meth X.K C m f) (F : FnG X.prog X.w X.K X.mg X.base j f fd ps sp) (hk : j ≤ k) (hb : KBd X.K fd ps (n + 1) ks perm) (r : MTabK X k m n ks perm tb) : MTabK X k m n ks perm ((c, sp) :: tb) := fun p hp => by
  rcases List.mem_cons.mp hp with rfl | hp
  · exact ⟨C, f, fd, ps, hC, cl, me, F.mono hk, hb⟩
  · exact r p hp
end
section
variable {σ : SD} {G : HH} {Q : QD} {E : ED} {ta : TED} {t tk : TAD} {m c : Str} {n l : Nat} {perm : List Nat} {tb : List (Str × SpD)} {ns : List Str} {ds : List D}
theorem st_methVK (h : ta σ G (fun x G1 => ∃ c sp ns ds, InsD G1 x c ns ds ∧ lk m ns ds = none ∧ (c, sp) ∈ tb ∧ t σ G1 (fun as G2 => tk σ G2 (fun zs G3 => as.length = n ∧ zs.length = l ∧ sp (pick perm (x :: (as ++ zs))) G3 Q E) E) E) E) : dMethVK m n l perm tb ta t tk σ G Q E := h
theorem st_methVKq (sp : SpD) (hl : lk m ns ds = none) (hm : (c, sp) ∈ tb) (h : t σ G (fun as G2 => tk σ G2 (fun zs G3 => as.length = n ∧ zs.length = l ∧ sp (pick perm (.obj c ns ds :: (as ++ zs))) G3 Q E) E) E) :
    ∃ c' sp ns' ds', InsD G (.obj c ns ds) c' ns' ds' ∧ lk m ns' ds' = none ∧ (c', sp) ∈ tb ∧ t σ G (fun as G2 => tk σ G2 (fun zs G3 => as.length = n ∧ zs.length = l ∧ sp (pick perm (.obj c ns ds :: (as ++ zs))) G3 Q E) E) E := ⟨c, sp, ns, ds, .obj c ns ds, hl, hm, h⟩
end
end DL

namespace DL
open PySem PySem.Spec PyProof.Rows L2
open PySem.W (Frag)
/-! ### {k: v, ..}, keys numbers or texts -/
def mergeD (kvs more : List (Key × D)) : List (Key × D) := more.foldl (fun acc kv => kput acc kv.1 kv.2) kvs
theorem KRp.merge {K : Frag} {H : Hp} {G : HH} : ∀ {mk : List (Key × D)} {mx : List (Key × V)} {kvs : List (Key × D)} {xs : List (Key × V)}, KRp K H G mk mx → KRp K H G kvs xs → KRp K H G (mergeD kvs mk) (mergeK xs mx)
  | [], [], _, _, _, h => h
  | [], _ :: _, _, _, m, _ => by have := m.1; cases this
  | _ :: _, [], _, _, m, _ => by have := m.1; cases this
  | (k, d) :: mk, (k', v) :: mx, kvs, xs, ⟨m1, m2⟩, h => by
    simp only [List.map_cons] at m1 m2
    injection m1 with e1 e2
    subst e1
    cases m2 with
    | cons a r => exact KRp.merge (mk := mk) (mx := mx) ⟨e2, r⟩ (h.put a)
def dPairs : List (TED × TED) → SD → HH → (List (D × D) → HH → Prop) → ED → Prop
  | [], _, G, Q, _ => Q [] G
  | (tk, tv) :: r, σ, G, Q, E => tk σ G (fun x G1 => tv σ G1 (fun y G2 => dPairs r σ G2 (fun ps G3 => Q ((x, y) :: ps) G3) E) E) E
def DPs (X : Cx) (W : WX) (pos : Pos) (keys : List (Option Expr)) (values : List Expr) (trs : List (TED × TED)) : Prop := PPs X pos keys values (trs.map fun p => (lft X.K W p.1, lft X.K W p.2))
section
variable {X : Cx} {W : WX} {pos : Pos}
theorem dps_nil : DPs X W pos [] [] [] := pps_nil
theorem dps_cons {k v : Expr} {ks : List (Option Expr)} {vs : List Expr} {tk tv : TED} {trs : List (TED × TED)} (hk : DE X W k tk) (hv : DE X W v tv) (hr : DPs X W pos ks vs trs) : DPs X W pos (some k :: ks) (v :: vs) ((tk, tv) :: trs) := pps_cons hk hv hr
theorem dPairs_to {K : Frag} {σD : SD} {σ : L2.St} {E : ED} : ∀ (trs : List (TED × TED)) {QP : List (D × D) → HH → Prop} {Q : List (V × V) → Hp → Prop} (H : Hp) (G : HH), RelH K H G → SRp K H G σD σ → dPairs trs σD G QP E →
    (∀ ps H' pd G', Stp H G H' G' → RelH K H' G' → Rps K H' G' (pd.map (·.1)) (ps.map (·.1)) → Rps K H' G' (pd.map (·.2)) (ps.map (·.2)) → QP pd G' → Q ps H') → Exs K W σ H G E → tPairs (trs.map fun p => (lft K W p.1, lft K W p.2)) σ H Q
  | [], QP, Q, H, G, hR, hS, q, hq, hE => hq [] H [] G Stp.refl hR .nil .nil q
  | (tk, tv) :: r, QP, Q, H, G, hR, hS, q, hq, hE => by
    refine ⟨σD, G, _, E, hR, hS, q, fun x H1 dx G1 s1 r1 p1 q1 => ?_, hE⟩
    refine ⟨σD, G1, _, E, r1, hS.mono s1, q1, fun y H2 dy G2 s2 r2 p2 q2 => ?_, hE.mono s1⟩
    exact dPairs_to r H2 G2 r2 (hS.mono (s1.trans s2)) q2 (fun ps H' pd G' s' r' k1 k2 q' => hq ((x, y) :: ps) H' ((dx, dy) :: pd) G' ((s1.trans s2).trans s') r' (.cons (p1.mono (s2.trans s')) k1) (.cons (p2.mono s') k2) q') (hE.mono (s1.trans s2))
theorem keys_of {K : Frag} {H : Hp} {G : HH} : ∀ {ks : List Key} {vs : List V}, Rps K H G (ks.map kD) vs → vs = ks.map kV
  | [], _, .nil => rfl
  | .inl i :: ks, _, .cons a r => by cases a; rw [keys_of r]; rfl
  | .inr x :: ks, _, .cons a r => by cases a; rw [keys_of r]; rfl
def dDisp (trs : List (TED × TED)) : TED := fun σ G Q E => ∀ p, G p = none → dPairs trs σ (gput G p (.dK [])) (fun ps G2 => G2 p = some (.dK []) ∧ ∃ kvs : List (Key × D), ps = kvs.map (fun kv => (kD kv.1, kv.2)) ∧ kvs.length ≤ 15 ∧ Q (.ref p) (gput G2 p (.dK (mergeD [] kvs)))) E
theorem de_disp {keys : List (Option Expr)} {values : List Expr} {trs : List (TED × TED)} (h : DPs X W pos keys values trs) (hall : keys.all (·.isSome) = true := by rfl) (hl : keys.length = values.length := by rfl) (h0 : keys ≠ [] := by exact fun z => by cases z)
    (h15 : keys.length ≤ 15 := by decide) : DE X W (.Dict keys values pos) (dDisp trs) :=
  PE.imp (pe_disp h hall hl h0 h15) fun σ H Q ⟨σD, G, QD, E, hR, hS, q, hq, hE⟩ => fun p hp => by
    have s1 : Stp H G (upd H p (.dK [])) (gput G p (.dK [])) := .newM hp
    have r1 : RelH X.K (upd H p (.dK [])) (gput G p (.dK [])) := hR.newM hp ⟨[], upd_same, rfl, .nil⟩
    refine dPairs_to trs _ _ r1 (hS.mono s1) (q p (hR.free hp)) (fun ps H2 pd G2 s2 r2 k1 k2 ⟨e, kvs, ep, hlen, q2⟩ => ?_) (hE.mono s1)
    subst ep
    rw [List.map_map] at k1 k2
    have k1' : Rps X.K H2 G2 ((kvs.map (·.1)).map kD) (ps.map (·.1)) := by rw [List.map_map]; exact k1
    have ek := keys_of k1'
    have hH : H2 p = some (.dK []) := by
      obtain ⟨xs, e1, e2, _⟩ := r2 p _ e
      cases xs with
      | nil => exact e1
      | cons a b => cases e2
    have hlp : ps.length = kvs.length := by have := congrArg List.length ek; simpa using this
    refine ⟨hH, (kvs.map (·.1)).zip (ps.map (·.2)), ?_, by simp; omega, ?_⟩
    · refine List.ext_getElem? fun i => ?_
      have := congrArg (fun l => l[i]?) ek
      simp only [List.getElem?_map, List.getElem?_zip_eq_some, Option.map_map] at this ⊢
      rw [List.zip, List.getElem?_zipWith]
      simp only [List.getElem?_map]
      cases e1 : ps[i]? with
      | none =>
        cases e2 : kvs[i]? with
        | none => rfl
        | some kv => rw [e1, e2] at this; cases this
      | some pq =>
        cases e2 : kvs[i]? with
        | none => rw [e1, e2] at this; cases this
        | some kv =>
          rw [e1, e2] at this
          simp at this
          obtain ⟨a, b⟩ := pq
          simp only [Option.map_some]
          simp at this ⊢
          exact this
    · have kr : KRp X.K H2 G2 kvs ((kvs.map (·.1)).zip (ps.map (·.2))) := by
        constructor
        · rw [List.map_fst_zip (by simp [hlp])]
        · rw [List.map_snd_zip (by simp [hlp])]; exact k2
      have km := kr.merge (K := X.K) (kvs := []) (xs := []) .nil
      have s3 : Stp H2 G2 (upd H2 p (.dK (mergeK [] ((kvs.map (·.1)).zip (ps.map (·.2)))))) (gput G2 p (.dK (mergeD [] kvs))) := .put e
      exact hq _ _ _ _ ((s1.trans s2).trans s3) (r2.put e ⟨_, upd_same, (km.mono s3).1, (km.mono s3).2⟩) (.ref p) q2
end
section
variable {σ : SD} {G : HH} {Q : QD} {E : ED} {tk tv : TED} {trs : List (TED × TED)}
theorem st_disp (h : ∀ p, G p = none → dPairs trs σ (gput G p (.dK [])) (fun ps G2 => G2 p = some (.dK []) ∧ ∃ kvs : List (Key × D), ps = kvs.map (fun kv => (kD kv.1, kv.2)) ∧ kvs.length ≤ 15 ∧ Q (.ref p) (gput G2 p (.dK (mergeD [] kvs)))) E) : dDisp trs σ G Q E := h
theorem st_prs {QP : List (D × D) → HH → Prop} (h : tk σ G (fun x G1 => tv σ G1 (fun y G2 => dPairs trs σ G2 (fun ps G3 => QP ((x, y) :: ps) G3) E) E) E) : dPairs ((tk, tv) :: trs) σ G QP E := h
theorem st_prn {QP : List (D × D) → HH → Prop} (h : QP [] G) : dPairs [] σ G QP E := h
end
theorem st_eqB {a b : Bool} {G : HH} {Q : QD} (h : Q (.bl (decide (a = b))) G) : eAny false (.bl a) (.bl b) G Q := .inl ⟨_, _, rfl, rfl, rfl, by
  have : decide (V.bl a = V.bl b) = decide (a = b) := by cases a <;> cases b <;> decide
  simpa [this] using h⟩
theorem st_neB {a b : Bool} {G : HH} {Q : QD} (h : Q (.bl (!decide (a = b))) G) : eAny true (.bl a) (.bl b) G Q := .inl ⟨_, _, rfl, rfl, rfl, by
  have : decide (V.bl a = V.bl b) = decide (a = b) := by cases a <;> cases b <;> decide
  simpa [this] using h⟩
end DL

namespace DL
open PySem PySem.Spec PyProof.Rows L2
open PySem.W (Frag)
/-! ### try .. except C as n, try .. except C -/
theorem SRp.drop {K : Frag} {H G} {σD : SD} {σ : L2.St} (h : SRp K H G σD σ) (i : Nat) (v : Option V) : SRp K H G (σD.set i none) (σ.set i v) := by
  refine ⟨by simp [h.len], fun j e he => ?_⟩
  by_cases hj : i = j
  · subst hj
    have hlt : i < σD.length := by
      have := (List.getElem?_eq_some_iff.mp he).1
      simpa using this
    rw [List.getElem?_set_self hlt] at he
    cases he
  · rw [List.getElem?_set_ne hj] at he
    obtain ⟨u, e1, r1⟩ := h.at_ j e he
    exact ⟨u, by rw [List.getElem?_set_ne hj]; exact e1, r1⟩
/-- the exception as a suite has it -/
def excD (a : Addr) (d : Option Addr) (x : XD) : D := match d with
  | none => .ref a
  | some dd => .xe a dd x.ns x.vs
theorem XRp.excD {K H G x cls d} (a : Addr) (h : XRp K H G x cls d) : Rp K H G (DL.excD a d x) (.ref a) := by
  obtain ⟨_, h2⟩ := h
  cases d with
  | none => exact .ref a
  | some dd =>
    obtain ⟨xs, e1, e2, e3, e4⟩ := h2
    exact .xe e1 e2 e3 e4
abbrev WF : WX := fun _ _ _ _ => False
def dTryA (i : Nat) (tbl : List (Str × Bool)) (tb : TSD) (ts : Str → Addr → Option Addr → TSD) : TSD := fun D σ G =>
  tb { D with ex := fun x σ' G' => ∃ n b, x.cls = .own n ∧ (n, b) ∈ tbl ∧ (b = true → ∀ a d, (d = none → x.ns = []) → ts n a d { nx := fun σ2 G2 => D.nx (σ2.set i none) G2, rt := D.rt, bk := fun σ2 G2 => D.bk (σ2.set i none) G2, ct := fun σ2 G2 => D.ct (σ2.set i none) G2, ex := fun _ _ _ => False } (σ'.set i (some (excD a d x))) G') ∧ (b = false → D.ex x σ' G') } σ G
def dTryO (tbl : List (Str × Bool)) (tb : TSD) (ts : Str → Addr → Option Addr → TSD) : TSD := fun D σ G =>
  tb { D with ex := fun x σ' G' => ∃ n b, x.cls = .own n ∧ (n, b) ∈ tbl ∧ (b = true → ∀ a d, (d = none → x.ns = []) → ts n a d { D with ex := fun _ _ _ => False } σ' G') ∧ (b = false → D.ex x σ' G') } σ G
def ExTab (K : Frag) (C : Addr) (tbl : List (Str × Bool)) : Prop := ∀ p ∈ tbl, ∀ C', gaddr K p.1 = some C' → PySem.W.exmOne K (.ref C') (.ref C) = some p.2
section
variable {X : Cx} {W : WX} {x nm : Str} {C : Addr} {i : Nat} {body suite : List Stmt} {b₀ : Stmt} {np pos pos' : Pos} {tb : TSD} {ts : Str → Addr → Option Addr → TSD} {tbl : List (Str × Bool)}
def tsK (K : Frag) (ts : Str → Addr → Option Addr → TSD) : Addr → Value → Option Addr → TS := fun a cls d D σ H => ∃ n C, gaddr K n = some C ∧ cls = .ref C ∧ lftS K WF (ts n a d) D σ H
theorem ds_tryA (hN : X.N.Nodup) (hi : X.N[i]? = some nm) (hln : X.env.kindOf nm = some .local) (hg : Gl X x) (hm : X.mg x = some (.ref C)) (tk : Takes X W) (hT : ExTab X.K C tbl)
    (hb : ∀ (W' : WX) (pn : List (Addr × Obj)) (xe : Value → Shared → Prop), Takes (X.tr pn xe) W' → PassesOwn (model X.prog X.w) X.A X.env xe → DSs (X.tr pn xe) W' body tb)
    (hsu : ∀ (n : Str) (C' : Addr), gaddr X.K n = some C' → ∀ (a : Addr) (oe : Obj) (d : Option Addr) (pn : List (Addr × Obj)), Zc (.ref C') d oe → (∃ vs, oe.data = .fields vs) → DSs (X.suite a ((a, oe) :: pn)) WF (b₀ :: suite) (ts n a d))
    (hdb : (x == ("__debug__" : Str)) = false := by decide) (hs : X.stack = X.env :: X.outer := by rfl) (hf : X.env.frame = some X.env.locals := by rfl) :
    DS X W (.Try body [.ExceptHandler (some (.Name x np)) (some nm) (b₀ :: suite) pos'] [] [] pos) (dTryA i tbl tb ts) :=
  PS.imp (ps_try_as (tb := fun W' => lftS X.K W' tb) (ts := tsK X.K ts) (Wout := W) hs hf hN hi hln ⟨hg, hdb, .inl hm⟩ tk hb fun a oe cls d pn hz hv => ⟨fun pins s σ H D I ⟨n, C', hC, e, h⟩ => (hsu n C' hC a oe d pn (by rw [← e]; exact hz) hv).run pins s σ H D I h⟩)
    fun D σ H ⟨σD, G, DD, hR, hS, q, he⟩ => ⟨σD, G, _, hR, hS, q, ⟨he.nx, he.rt, he.bk, he.ct, fun y cls d σ' σD' H' G' s r p xr ⟨n, b, en, hm', h1, h2⟩ => by
      have xr0 := xr
      obtain ⟨hc, _⟩ := xr
      rw [en] at hc
      obtain ⟨C', hC, rfl⟩ := hc
      refine ⟨b, hT _ hm' C' hC, fun hb' a ha => ⟨n, C', hC, rfl, σD'.set i (some (excD a d y)), G', _, r, p.set i (xr0.excD a), h1 hb' a d (fun e => by subst e; exact xr0.2.1), ⟨fun σ2 H2 σD2 G2 s2 r2 p2 q2 => he.nx _ _ _ _ (s.trans s2) r2 (p2.drop i none) q2, he.rt.mono s, fun σ2 H2 σD2 G2 s2 r2 p2 q2 => he.bk _ _ _ _ (s.trans s2) r2 (p2.drop i none) q2, fun σ2 H2 σD2 G2 s2 r2 p2 q2 => he.ct _ _ _ _ (s.trans s2) r2 (p2.drop i none) q2, fun _ _ _ _ _ _ _ _ _ _ _ z => z⟩⟩, fun hb' => he.ex _ _ _ _ _ _ _ s r p xr0 (h2 hb')⟩⟩⟩
theorem ds_tryO (hg : Gl X x) (hm : X.mg x = some (.ref C)) (tk : Takes X W) (hT : ExTab X.K C tbl)
    (hb : ∀ (W' : WX) (pn : List (Addr × Obj)) (xe : Value → Shared → Prop), Takes (X.tr pn xe) W' → PassesOwn (model X.prog X.w) X.A X.env xe → DSs (X.tr pn xe) W' body tb)
    (hsu : ∀ (n : Str) (C' : Addr), gaddr X.K n = some C' → ∀ (a : Addr) (oe : Obj) (d : Option Addr) (pn : List (Addr × Obj)), Zc (.ref C') d oe → (∃ vs, oe.data = .fields vs) → DSs (X.suite a ((a, oe) :: pn)) WF (b₀ :: suite) (ts n a d))
    (hdb : (x == ("__debug__" : Str)) = false := by decide) (hs : X.stack = X.env :: X.outer := by rfl) (hf : X.env.frame = some X.env.locals := by rfl) :
    DS X W (.Try body [.ExceptHandler (some (.Name x np)) none (b₀ :: suite) pos'] [] [] pos) (dTryO tbl tb ts) :=
  PS.imp (ps_try_only (tb := fun W' => lftS X.K W' tb) (ts := tsK X.K ts) (Wout := W) hs hf ⟨hg, hdb, .inl hm⟩ tk hb fun a oe cls d pn hz hv => ⟨fun pins s σ H D I ⟨n, C', hC, e, h⟩ => (hsu n C' hC a oe d pn (by rw [← e]; exact hz) hv).run pins s σ H D I h⟩)
    fun D σ H ⟨σD, G, DD, hR, hS, q, he⟩ => ⟨σD, G, _, hR, hS, q, ⟨he.nx, he.rt, he.bk, he.ct, fun y cls d σ' σD' H' G' s r p xr ⟨n, b, en, hm', h1, h2⟩ => by
      have xr0 := xr
      obtain ⟨hc, _⟩ := xr
      rw [en] at hc
      obtain ⟨C', hC, rfl⟩ := hc
      refine ⟨b, hT _ hm' C' hC, fun hb' a ha => ⟨n, C', hC, rfl, σD', G', _, r, p, h1 hb' a d (fun e => by subst e; exact xr0.2.1), ⟨he.nx.mono s, he.rt.mono s, he.bk.mono s, he.ct.mono s, fun _ _ _ _ _ _ _ _ _ _ _ z => z⟩⟩, fun hb' => he.ex _ _ _ _ _ _ _ s r p xr0 (h2 hb')⟩⟩⟩
end
end DL

namespace DL
open PySem PySem.Spec PyProof.Rows L2
open PySem.W (Frag)
/-! ### what a suite asks of its exception: its fields, its class -/
section
variable {prog : Program} {w : World} {A : Around} {E : Value → Shared → Prop} {s : Shared} {K : Frag} {x D : Addr} {ox : Obj} {od : Option Obj} {Q : Option Value → Shared → Prop}
theorem exc_found (T : ExcC K D) : PySem.W.findObj K D od "__class__" = some (.bind (.builtin "getset_descriptor.__get__") (.builtin "object.__class__")) := by
  obtain ⟨cd, hc, _⟩ := PySem.W.any_some T.hd
  unfold PySem.W.findObj; rw [hc, Option.bind_some, T.ha, Option.bind_some]; simp [T.hn, T.ht]
theorem exc_class (T : ExcC K D) (hin : K.In s.heap) (I : PySem.W.InstAt s.heap x ox D od) (q : Q (some (.ref D)) { s with toks := s.toks + 1 }) : wpAny (model prog w) A (getAttr? (.ref x) "__class__") Q E s := by
  cases s with
  | mk hp g d t os =>
    have Y0 := I.type (M := model prog w); have Y1 := PySem.W.looks_findIn (M := model prog w) hin T.hg
    have Y2 := PySem.W.looks_findIn (M := model prog w) hin T.hk; have Y3 := PySem.W.looks_find (M := model prog w) hin I (exc_found T)
    have Ys : PySem.W.Looks (model prog w) hp (isInstance (.ref x) (.type "BaseException")) true := Y0.andThen (PySem.W.looks_subIn hin T.hs)
    have n2 : (Value.builtin "BaseException.__getattribute__" == Value.builtin "object.__getattribute__") = false := by decide +kernel
    have n1 : (onTheHeap (Value.ref D) && Value.builtin "BaseException.__getattribute__" == Value.builtin "object.__getattribute__") = false := by rw [n2]; rfl
    unfold getAttr? getAttrBy? getAttrBy; refine wpAny_bind (wpAny_mkText (wpAny_bind (wpAny_attempt (wpAny_holding (wpAny_bind (Y0.at (wpAny_bind (Y1.at ?_))))))))
    show wpAny _ _ (if (onTheHeap (Value.ref D) && Value.builtin "BaseException.__getattribute__" == Value.builtin "object.__getattribute__") = true then _ else _) _ _ _; rw [n1, if_neg Bool.false_ne_true]
    unfold getAttrByItsOwn hookBefore; refine wpAny_bind ?_; rw [if_pos (show onTheHeap (Value.ref D) = true from rfl)]
    refine Y2.at (wpAny_bind (wpAny_attempt (wpAny_holding ?_)))
    unfold callGetattribute; rw [show (false && onTheHeap (Value.builtin "BaseException.__getattribute__")) = false from rfl, if_neg Bool.false_ne_true]
    unfold boundAndCalled; rw [PySem.F.excAttr_ValueError.ga.bind (.ref x)]; refine wpAny_bind (wpAny_pure ?_)
    show wpAny _ _ (call (.builtin "BaseException.__getattribute__") [.ref x, .str "__class__" t]) _ _ _; refine wpAny_call (codeAny_call_builtin PySem.F.excAttr_ValueError.ga.plain PySem.F.entry_bexc_ga ?_)
    refine @PySem.W.check_slot (model prog w) _ _ ⟨hp, g, d, t + 1, os⟩ "BaseException.__getattribute__" "BaseException" "__getattribute__" (.ref x) [.str "__class__" t] [] _ (by decide +kernel) (by decide +kernel) Ys (PySem.F.args_bexc_ga (.ref x) (.str "__class__" t)) ?_
    unfold Builtin.«object.__getattribute__»; refine wpAny_bind (wpAny_of_eq (a := ((Value.ref x : Value), [Value.str "__class__" t])) (by first | rfl | (simp only [slotArgs]; rfl)) ?_)
    refine wpAny_bind (wpAny_pure (wpAny_bind (Y0.at (wpAny_bind (Y3.at ?_))))); show wpAny _ _ (holding [Value.builtin "object.__class__"] (call (.builtin "getset_descriptor.__get__") [.builtin "object.__class__", .ref x, .ref D]) >>= ret) _ _ _
    refine wpAny_bind (wpAny_holding (wpAny_call (PySem.W.class_get (s := ⟨hp, g, d, t + 1, os⟩) (ox := ox) (od := od) hin I T.hm ?_)))
    refine wpAny_pure ?_; show wpAny _ _ (handedOut (.ref D)) _ _ _; rw [PySem.W.handedOut_of (v := .ref D) rfl]
    first | exact wpAny_pure (wpAny_pure q) | exact wpAny_pure q | exact wpAny_pure (wpAny_bind (wpAny_pure (wpAny_pure q)))
theorem exc_kit (T : ExcC K D) : PySem.W.KitX K (.ref x) (.ref D) (fun h => ∃ od, PySem.W.InstAt h x ox D od) where
  ty := fun _ _ _ ⟨_, I⟩ => I.type
  it := fun _ _ hin _ => by
    obtain ⟨cdD, hcD, _⟩ := PySem.W.any_some T.hd
    unfold PySem.W.clsIn at hcD
    split at hcD
    · next c' d' cd' sl' ho => intro A' Q' E' s' k q; unfold isType loadHead; exact wpAny_bind (wpAny_loadPart (k _ _ (hin _ _ ho)) (wpAny_pure q))
    · cases hcD
  ne := fun h tp dd its n sl hin htp => by
    obtain ⟨cdD, hcD, _⟩ := PySem.W.any_some T.hd
    refine Bool.eq_false_iff.mpr fun q => ?_
    cases Value.ref.inj (beq_iff_eq.mp q)
    unfold PySem.W.clsIn at hcD
    split at hcD
    · next c' d' cd' sl' ho => have z := (hin _ _ ho).symm.trans htp; cases z
    · cases hcD
  ca := fun hin ⟨_, I⟩ k => exc_class T hin I k
end
def dExcF (a : Addr) (d : Option Addr) (n : Str) (cs : List Str) (f : Str) (te : TED) : TED := fun σ G Q E => te σ G (fun v G1 => ∃ dd ns vs y, d = some dd ∧ v = .xe a dd ns vs ∧ n ∈ cs ∧ lk f ns vs = some y ∧ Q y G1) E
section
variable {X : Cx} {a Da : Addr} {oe : Obj} {d : Option Addr} {pn : List (Addr × Obj)} {pos apos : Pos}
/-- the suite's exception as an instance -/
theorem exc_inst {pins : List (Addr × Obj)} {σ : L2.St} {H : Hp} {s : Shared} (hz : Zc (.ref Da) d oe) (hf : ∃ vs, oe.data = .fields vs) (I : Inv (X.suite a ((a, oe) :: pn)) pins σ H s) (h : ∀ dd, d = some dd → ∃ ns, H dd = some (.xd ns)) : ∃ od, PySem.W.InstAt s.heap a oe Da od := by
  obtain ⟨ha, _⟩ := I.pin (a, oe) (List.mem_append_left _ List.mem_cons_self)
  obtain ⟨vs, hd⟩ := hf
  have hn : PySem.W.notCls oe = true := by unfold PySem.W.notCls; rw [hd]
  cases d with
  | none => exact ⟨none, ha, hz.1, hn, by rw [hz.2]; trivial⟩
  | some dd =>
    obtain ⟨ns, e⟩ := h dd rfl
    obtain ⟨mA, hns, hr⟩ := (show ObjOk X.prog X.w H s.heap dd (.xd ns) from I.hok dd _ e)
    obtain ⟨od, ho, hl⟩ := lookIn_ns hns
    exact ⟨some od, ha, hz.1, hn, by rw [hz.2]; exact ho⟩
theorem de_excF {n f : Str} {cs : List Str} {e : Expr} {te : TED} (hC : gaddr X.K n = some Da) (hF : ∀ c ∈ cs, ∀ C, gaddr X.K c = some C → ExcC X.K C ∧ PySem.W.findIn X.K (.ref C) f = some none) (hz : Zc (.ref Da) d oe) (hf : ∃ vs, oe.data = .fields vs) (he : DE (X.suite a ((a, oe) :: pn)) WF e te)
    (hb : attributeBase e f X.env (eval e X.env) = eval e X.env := by rfl) : DE (X.suite a ((a, oe) :: pn)) WF (.Attribute e f pos) (dExcF a d n cs f te) := by
  have he' : PE (X.suite a ((a, oe) :: pn)) e (lft X.K WF te) := he
  refine ⟨fun pins s σ H Q I ⟨σD, G, QD, E, hR, hS, q, hq, hE⟩ => ?_⟩
  refine attr_of hb (thn (he'.run pins s σ H (fun v H1 => ∃ dd xs ns vs y G1, Stp H G H1 G1 ∧ RelH X.K H1 G1 ∧ v = .ref a ∧ d = some dd ∧ H1 dd = some (.xd (ns.zip xs)) ∧ ns.length = xs.length ∧ Rps X.K H1 G1 vs xs ∧ n ∈ cs ∧ lk f ns vs = some y ∧ QD y G1) I ⟨σD, G, _, E, hR, hS, q, fun v H1 dv G1 s1 r1 p1 ⟨dd, ns, vs, y, ed, ev, hn, hl, q1⟩ => ?_, hE⟩) fun u s1 ⟨x, H1, I1, rx, dd, xs, ns, vs, y, G1, ss, rr, ev, ed, eh, el, rp, hn, hl, q1⟩ => ?_)
  · subst ev
    cases p1 with
    | xe h g e r => exact ⟨_, _, _, _, _, _, s1, r1, rfl, ed, h, e, r, hn, hl, q1⟩
  · subst ev
    obtain rfl : u = Value.ref a := rx
    subst ed
    obtain ⟨T, no⟩ := hF n hn Da hC
    obtain ⟨ha, _⟩ := I1.pin (a, oe) (List.mem_append_left _ List.mem_cons_self)
    obtain ⟨ws, hd⟩ := hf
    obtain ⟨mA, hns, hr⟩ := (show ObjOk X.prog X.w H1 s1.heap dd (.xd (ns.zip xs)) from I1.hok dd _ eh)
    obtain ⟨od, ho, hl'⟩ := lookIn_ns hns
    rcases lk_zip (f := f) rp el with ⟨z, _⟩ | ⟨d2, v, e1, e2, p2⟩
    · rw [hl] at z; cases z
    rw [hl] at e1; cases e1
    obtain ⟨u, hu, ru⟩ := RelO.some_of (v := v) (o := mA f) (by rw [← e2]; exact hr f)
    have J : PySem.W.InstAt s1.heap a oe Da (some od) := ⟨ha, hz.1, by unfold PySem.W.notCls; rw [hd], by rw [hz.2]; exact ho⟩
    exact HandSPX.exc_get I1.kIn J T.hg T.hk T.hs (PySem.W.findObj_own T.hd no rfl (by rw [hl', hu])) (handed_of ru) ⟨v, H1, I1.tok _, ru, hq _ _ _ _ ss rr p2 q1⟩
/-- isinstance(e, c), e the suite's exception -/
def rIsX (K : Frag) (Da a : Addr) (d : Option Addr) : List V → Hp → VK → Prop := fun xs H Q => ∃ (c : V) (cv : Value) (b : Bool), xs = [.ref a, c] ∧ (∀ u, RelV c u → u = cv) ∧ PySem.W.kitOne K (.ref Da) cv = some b ∧ (∀ dd, d = some dd → ∃ ns, H dd = some (.xd ns)) ∧ Q (.bl b) H
theorem call_isX (T : ExcC X.K Da) (hz : Zc (.ref Da) d oe) (hf : ∃ vs, oe.data = .fields vs) : CallR (X.suite a ((a, oe) :: pn)) (.builtin "isinstance") (rIsX X.K Da a d) := by
  intro pins s σ H xs us Q I r ⟨c, cv, b, ex, hcv, e, hdd, q⟩
  subst ex
  obtain ⟨u1, u2, rfl, r1, r2⟩ := vals2 r
  obtain rfl : u1 = Value.ref a := r1
  have ec := hcv _ r2
  subst ec
  exact PySem.W.kia_one (exc_kit T) I.kIn (exc_inst hz hf I hdd) e (by intro z; cases z) fun tk => ⟨.bl b, H, I.tok tk, rfl, q⟩
/-- the class that is asked: an own one, or a built-in -/
inductive ClsD (K : Frag) : D → Value → Prop
  | own {c : Str} {C : Addr} : gaddr K c = some C → ClsD K (.gv c) (.ref C)
  | ty (T : String) : ClsD K (.ty T) (.type T)
def kIsX (a : Addr) (d : Option Addr) (n : Str) (y0 : D) (tbl : List (Str × Bool)) : RCD := c2 fun x y G Q => y = y0 ∧ ((∃ dd ns vs, d = some dd ∧ x = .xe a dd ns vs) ∨ (d = none ∧ x = .ref a)) ∧ ∃ b, (n, b) ∈ tbl ∧ Q (.bl b) G
theorem cIsX {n : Str} {y0 : D} {cv : Value} {tbl : List (Str × Bool)} (hC : gaddr X.K n = some Da) (hcl : ClsD X.K y0 cv) (hT : ∀ p ∈ tbl, ∀ C, gaddr X.K p.1 = some C → ExcC X.K C ∧ PySem.W.kitOne X.K (.ref C) cv = some p.2) (hz : Zc (.ref Da) d oe) (hf : ∃ vs, oe.data = .fields vs)
    (hE : n ∈ tbl.map (·.1) → ExcC X.K Da) (hn : n ∈ tbl.map (·.1)) : CallD (X.suite a ((a, oe) :: pn)) (.builtin "isinstance") (kIsX a d n y0 tbl) :=
  ⟨_, call_isX (hE hn) hz hf, fun xs H Q ds G QD hR hp ⟨x, y, e, ey, ex, b, hm, q⟩ hq => by
    subst e; subst ey
    obtain ⟨v, w, rfl, p1, p2⟩ := rps2 hp
    obtain ⟨T, hk⟩ := hT _ hm Da hC
    have hv : v = .ref a ∧ ∀ dd, d = some dd → ∃ ns, H dd = some (.xd ns) := by
      rcases ex with ⟨dd, ns, vs, ed, ex⟩ | ⟨ed, ex⟩
      · subst ex; subst ed
        cases p1 with
        | xe h g e r => exact ⟨rfl, fun dd' z => by cases z; exact ⟨_, h⟩⟩
      · subst ex; subst ed
        cases p1 with
        | ref a => exact ⟨rfl, fun dd z => by cases z⟩
    obtain ⟨rfl, hdd⟩ := hv
    refine ⟨w, cv, b, rfl, ?_, hk, hdd, hq.now hR (.bl _) q⟩
    intro u ru
    cases hcl with
    | own hc =>
      cases p2 with
      | gv hg =>
        rw [show gaddr X.K _ = some _ from hc] at hg
        cases hg
        exact ru
    | ty T =>
      cases p2
      exact ru⟩
theorem cIsX' {n : Str} {y0 : D} {cv : Value} {tbl : List (Str × Bool)} (hC : gaddr X.K n = some Da) (hcl : ClsD X.K y0 cv) (hT : ∀ p ∈ tbl, ∀ C, gaddr X.K p.1 = some C → ExcC X.K C ∧ PySem.W.kitOne X.K (.ref C) cv = some p.2) (hz : Zc (.ref Da) d oe) (hf : ∃ vs, oe.data = .fields vs) :
    CallD (X.suite a ((a, oe) :: pn)) (.builtin "isinstance") (kIsX a d n y0 tbl) := by
  by_cases hn : n ∈ tbl.map (·.1)
  · refine cIsX hC hcl hT hz hf (fun _ => ?_) hn
    obtain ⟨p, hp, e⟩ := List.mem_map.mp hn
    exact (hT p hp Da (by rw [e]; exact hC)).1
  · exact ⟨fun _ _ _ => False, fun pins s σ H xs us Q I r h => h.elim, fun xs H Q ds G QD hR hp ⟨x, y, e, ey, ex, b, hm, q⟩ hq => hn (List.mem_map.mpr ⟨_, hm, rfl⟩)⟩
end
section
variable {i : Nat} {tbl : List (Str × Bool)} {tb : TSD} {ts : Str → Addr → Option Addr → TSD} {σ : SD} {G : HH} {nx bk ct : SD → HH → Prop} {rt : QD} {ex : XD → SD → HH → Prop} {n : Str} {ns : List Str} {vs : List D} {Q : QD} {E : ED} {te : TED} {a dd : Addr} {f : Str} {cs : List Str} {y : D}
theorem st_tryA (h : tb ⟨nx, rt, bk, ct, fun x σ' G' => ∃ n b, x.cls = .own n ∧ (n, b) ∈ tbl ∧ (b = true → ∀ a d, (d = none → x.ns = []) → ts n a d { nx := fun σ2 G2 => nx (σ2.set i none) G2, rt := rt, bk := fun σ2 G2 => bk (σ2.set i none) G2, ct := fun σ2 G2 => ct (σ2.set i none) G2, ex := fun _ _ _ => False } (σ'.set i (some (excD a d x))) G') ∧ (b = false → ex x σ' G')⟩ σ G) : dTryA i tbl tb ts ⟨nx, rt, bk, ct, ex⟩ σ G := h
theorem st_tryO (h : tb ⟨nx, rt, bk, ct, fun x σ' G' => ∃ n b, x.cls = .own n ∧ (n, b) ∈ tbl ∧ (b = true → ∀ a d, (d = none → x.ns = []) → ts n a d ⟨nx, rt, bk, ct, fun _ _ _ => False⟩ σ' G') ∧ (b = false → ex x σ' G')⟩ σ G) : dTryO tbl tb ts ⟨nx, rt, bk, ct, ex⟩ σ G := h
theorem caught {P : Str → Addr → Option Addr → Prop} {F : Prop} (hm : (n, true) ∈ tbl) (hn : ns ≠ []) (h : ∀ a dd, P n a (some dd)) : ∃ n' b, (XC.own n) = .own n' ∧ (n', b) ∈ tbl ∧ (b = true → ∀ a d, (d = none → ns = []) → P n' a d) ∧ (b = false → F) :=
  ⟨n, true, rfl, hm, fun _ a d hd => by
    cases d with
    | none => exact absurd (hd rfl) hn
    | some dd => exact h a dd, fun z => by cases z⟩
theorem caught0 {P : Str → Addr → Option Addr → Prop} {F : Prop} (hm : (n, true) ∈ tbl) (h : ∀ a d, P n a d) : ∃ n' b, (XC.own n) = .own n' ∧ (n', b) ∈ tbl ∧ (b = true → ∀ a d, (d = none → ns = []) → P n' a d) ∧ (b = false → F) :=
  ⟨n, true, rfl, hm, fun _ a d hd => h a d, fun z => by cases z⟩
theorem passed {P : Str → Addr → Option Addr → Prop} {F : Prop} (hm : (n, false) ∈ tbl) (h : F) : ∃ n' b, (XC.own n) = .own n' ∧ (n', b) ∈ tbl ∧ (b = true → ∀ a d, (d = none → ns = []) → P n' a d) ∧ (b = false → F) :=
  ⟨n, false, rfl, hm, (fun z => by cases z), fun _ => h⟩
theorem st_excF (h : te σ G (fun v G1 => ∃ dd' ns' vs' y', some dd = some dd' ∧ v = .xe a dd' ns' vs' ∧ n ∈ cs ∧ lk f ns' vs' = some y' ∧ Q y' G1) E) : dExcF a (some dd) n cs f te σ G Q E := h
theorem st_excFq {P : D → Prop} (hn : n ∈ cs) (hl : lk f ns vs = some y) (h : P y) : ∃ dd' ns' vs' y', some dd = some dd' ∧ D.xe a dd ns vs = .xe a dd' ns' vs' ∧ n ∈ cs ∧ lk f ns' vs' = some y' ∧ P y' := ⟨dd, ns, vs, y, rfl, rfl, hn, hl, h⟩
theorem st_isX {y0 : D} {b : Bool} (hm : (n, b) ∈ tbl) (h : Q (.bl b) G) : kIsX a (some dd) n y0 tbl [.xe a dd ns vs, y0] G Q := ⟨_, _, rfl, rfl, .inl ⟨dd, ns, vs, rfl, rfl⟩, b, hm, h⟩
theorem st_isX0 {y0 : D} {b : Bool} (hm : (n, b) ∈ tbl) (h : Q (.bl b) G) : kIsX a none n y0 tbl [.ref a, y0] G Q := ⟨_, _, rfl, rfl, .inr ⟨rfl, rfl⟩, b, hm, h⟩
end
end DL
namespace DL
open PySem PySem.Spec PyProof.Rows L2
theorem kit_bi {K : PySem.W.Frag} {t : Value} {T : String} {b : Bool} (e : (t == .type T) = false) (h1 : PySem.W.kitMeta T = true) (h3 : PySem.W.subIn K t (.type T) = some b) : PySem.W.kitOne K t (.type T) = some b := by
  unfold PySem.W.kitOne
  rw [e, if_neg Bool.false_ne_true]
  show (if PySem.W.kitMeta T = true then PySem.W.subIn K t (.type T) else none) = some b
  rw [h1, if_pos rfl]
  exact h3
end DL

namespace DL
open PySem PySem.Spec PyProof.Rows L2
open PySem.W (Frag)
/-! ### enumerate(..) of a tuple or a list -/
theorem meets_enumB {v : Value} {ob : Obj} {P : Heap → Prop} (B : Begins v ob P) :
    Meets (Builtin.«enumerate.__new__» ⟨[.type "enumerate", v], []⟩) (fun _ Rr sh => P sh.heap ∧
      Rr (.ok (.ret (.ref (sh.heap.push ob).objs.size))) { sh with heap := (sh.heap.push ob).push { cls := .type "enumerate", data := .fields #[.none, .bool false, .ref sh.heap.objs.size, rawInt 0, .none, .none] } }) :=
  .of_wp fun prog w A Rr sh hh => by
    obtain ⟨hp, gg, dd, tt, oo⟩ := sh; obtain ⟨hP, hh⟩ := hh
    have sb := sub_enumerate
    have it0 : ∀ {A' : Around} {E Q : Value → Shared → Prop}, Q (.ref hp.objs.size) ⟨hp.push ob, gg, dd, tt, oo⟩ → wpAny (model prog w) A' (pyIter v) Q E ⟨hp, gg, dd, tt, oo⟩ :=
      fun z => B.iter prog w _ _ ⟨hp, gg, dd, tt, oo⟩ _ hP z
    wp_walk using it0
    refine wpAny_stack_any fun sk => wpAny_pure ?_
    split
    · rename_i cc _ _ _ _ _
      cases (cc == Value.type "enumerate") <;> (wp_walk using it0; exact ⟨_, rfl, hh⟩)
    · wp_walk using it0
      exact ⟨_, rfl, hh⟩
section
variable {prog : Program} {w : World} {A : Around} {E : Value → Shared → Prop} {s : Shared}
theorem call_enumB {v : Value} {ob : Obj} {P : Heap → Prop} {Q : Value → Shared → Prop} (B : Begins v ob P) (hP : P s.heap)
    (hq : ∀ h2, IsEnum h2 (s.heap.objs.size + 1) s.heap.objs.size 0 .none → h2.get? s.heap.objs.size = some ob → (∀ b o, s.heap.get? b = some o → h2.get? b = some o) → Q (.ref (s.heap.objs.size + 1)) { s with heap := h2 }) :
    wpAny (model prog w) A (call (.type "enumerate") [v]) Q E s := by
  refine callType_new F.called_enumerate (by decide) (F.typeCall_enumerate_1 _) (F.newCall_enumerate_1 _) (fun z => F.args_object_init_2 z _) F.entry_enumerate_new (meets_enumB B) ⟨hP, ?_⟩
  have sz : (s.heap.push ob).objs.size = s.heap.objs.size + 1 := Heap.size_push ..
  show _ ∧ _
  rw [sz]
  have e1 : IsEnum ((s.heap.push ob).push { cls := .type "enumerate", data := .fields #[.none, .bool false, .ref s.heap.objs.size, rawInt 0, .none, .none] }) (s.heap.objs.size + 1) s.heap.objs.size 0 .none := by
    have z := Heap.get?_push_size (s.heap.push ob) (o := { cls := .type "enumerate", data := .fields #[.none, .bool false, .ref s.heap.objs.size, rawInt 0, .none, .none] }) rfl
    rw [sz] at z
    exact z
  exact ⟨⟨_, e1, rfl⟩, hq _ e1 (Heap.get?_push_of_some _ (Heap.get?_push_size _ B.free)) fun b o z => Heap.get?_push_of_some _ (Heap.get?_push_of_some _ z)⟩
end
/-- the tuple at a, of n items, each in a new pair -/
def IteT (K : Frag) (a : Addr) (n : Nat) : It :=
  ⟨fun i H => ∃ (xs : List V) (x : V), SqT K H a xs ∧ xs[i]? = some x ∧ xs.length = n, fun i H v H' => ∃ T x, v = .ref T ∧ H T = none ∧ H' = upd H T (.tup [.int (i : Nat), x]) ∧ ∀ xs, SqT K H a xs → xs[i]? = some x, fun i H => ∃ xs : List V, SqT K H a xs ∧ xs.length ≤ i ∧ xs.length = n⟩
theorem turn_enumT {P : Program} {w : World} {K : Frag} {elts : List Expr} {kk : Nat} {tpos : Pos} (a e it : Addr) (n : Nat) :
    Turn P w K (.Tuple elts kk tpos) (IteT K a n) [e, it] e (fun i h => (∃ old, IsEnum h e it ((i : Nat) : Int) old) ∧ h.IsTupleIter it a i ∧ e ≠ it ∧ i ≤ n) where
  mem := List.mem_cons_self
  obj := fun i h st b hb => by
    obtain ⟨⟨old, ee⟩, ⟨o, ho, hc, hd⟩, _⟩ := st
    rcases List.mem_cons.mp hb with z | z
    · rw [z]; exact ⟨_, ee, fun v q => nomatch q⟩
    · rw [List.mem_singleton.mp z]; exact ⟨o, ho, fun v q => by rw [hd] at q; cases q⟩
  keep := fun i h h' st k => let ⟨⟨old, ee⟩, hi, nn, le⟩ := st; ⟨⟨old, k e (by simp) _ ee⟩, hi.at fun o q => k it (by simp) o q, nn, le⟩
  item := by
    intro X hP hw hK hc i pins s σ H E I hf st hg
    subst hP hw hK
    obtain ⟨⟨old, ee⟩, hit, nn, le⟩ := st
    obtain ⟨xs, x, hq, hx, hn⟩ := hg
    obtain ⟨its, rv, p, hz⟩ := I.tuple hq
    obtain ⟨u, hu, ru⟩ := rv.get hx
    have el : e < s.heap.objs.size := Heap.lt_size ee
    have il : it < s.heap.objs.size := by obtain ⟨_, q, _⟩ := hit; exact Heap.lt_size q
    have hlen := rv.length
    have hi : i < xs.length := (List.getElem?_eq_some_iff.mp hx).1
    have p' : s.heap.IsTuple a its.toArray := p
    have ne2 : a ≠ it := fun z => by
      obtain ⟨o1, e1, _, c1⟩ := hit
      obtain ⟨o2, e2, _, n2, c2⟩ := p'
      rw [z, e1] at e2; cases e2
      rw [c1] at c2; cases c2
    have ne3 : a ≠ e := fun z => by
      obtain ⟨o2, e2, _, n2, c2⟩ := p'
      rw [z, ee] at e2; cases e2
      cases c2
    have hh : X.A.in1.handled = none := I.ok.hd hc
    refine wpAny_pyNext_enum_itemD (Draws.tuple hh it a ne2 its.toArray) ee ⟨hit, p'⟩ (by simp; omega) nn (by simp [Ne.symm ne3, nn]) fun y h' tk hy ho st' hT hsz hk => ?_
    obtain rfl : y = u := by
      have hy' : its.toArray[i]? = some y := hy
      simp only [List.getElem?_toArray] at hy'
      rw [hu] at hy'
      exact (Option.some.inj hy').symm
    refine ⟨_, rfl, wpAny_letOwnedTupleGo_enum (s := { s with heap := h', toks := tk + 1 }) ho fun h2 e2 sb => ?_⟩
    have hT2 : h2.get? s.heap.objs.size = some { cls := .type "tuple", data := .seq #[.int i tk, y] } := (sb.2 _ (Nat.ne_of_gt el)).trans hT
    have nw : ObjOk X.prog X.w (upd H s.heap.objs.size (.tup [.int (i : Nat), x])) h2 s.heap.objs.size (.tup [.int (i : Nat), x]) :=
      ⟨by show 2 ≤ sizeLine; decide, [.int i tk, y], .cons ⟨_, rfl⟩ (.cons ru .nil), ⟨_, hT2, rfl, _, rfl⟩⟩
    have I1 : Inv X pins σ (upd H s.heap.objs.size (.tup [.int (i : Nat), x])) { s with heap := h2, toks := tk + 1 } :=
      I.turnedNew (ch := [e, it]) (fun b o hb q => (sb.2 b (fun z => hb (by simp [z]))).trans (hk b o (fun z => hb (by simp [z])) (fun z => hb (by simp [z])) q)) hf (Nat.le_refl _) nw
    refine ⟨.ref s.heap.objs.size, _, I1, rfl, ⟨_, x, rfl, I.hok.fresh (Nat.le_refl _), rfl, fun ys hy => by rw [I.tuple_inj hy hq]; exact hx⟩, ⟨⟨y, ?_⟩, st'.1.at fun o q => (sb.2 it (Ne.symm nn)).trans q, nn, by omega⟩, fun b hb => ?_⟩
    · rw [show ((i + 1 : Nat) : Int) = (i : Int) + 1 from by omega]
      exact e2
    · have hb' : b < s.heap.objs.size := by
        rcases List.mem_cons.mp hb with z | z
        · rw [z]; exact el
        · rw [List.mem_singleton.mp z]; exact il
      rw [upd_ne (Nat.ne_of_lt hb')]
      exact (hf b hb).1
  done := by
    intro X hP hw hK hc i pins s σ H E I hf st hg
    subst hP hw hK
    obtain ⟨⟨old, ee⟩, hit, nn, le⟩ := st
    obtain ⟨xs, hq, hx, hn⟩ := hg
    obtain ⟨its, rv, p, hz⟩ := I.tuple hq
    obtain ⟨f0, f1, f2, f3, f4, f5⟩ := hf it (by simp)
    have hlen := rv.length
    have p' : s.heap.IsTuple a its.toArray := p
    have ne2 : a ≠ it := fun z => by
      obtain ⟨o1, e1, _, c1⟩ := hit
      obtain ⟨o2, e2, _, n2, c2⟩ := p'
      rw [z, e1] at e2; cases e2
      rw [c1] at c2; cases c2
    have hh : X.A.in1.handled = none := I.ok.hd hc
    have en : i = its.toArray.size := by simp; omega
    exact wpAny_pyNext_enum_endD (Draws.tuple hh it a ne2 its.toArray) ee ⟨by rw [← en]; exact hit, p'⟩ fun h' eb => ⟨rfl, I.turned (t' := s.toks) (fun b o hb q => eb b o hb q) f0 f1 f3 f4 f5⟩
  self := fun A i s Q E st h => let ⟨⟨_, ee⟩, _⟩ := st; wpAny_pyIter_enum ee h
def iEnumV (K : Frag) (ta : TA) : TI := fun σ H R => ta σ H fun vs H1 => ∃ a xs, vs = [.ref a] ∧ ((SqL K H1 a xs ∧ R (Ite K a) H1) ∨ (SqT K H1 a xs ∧ R (IteT K a xs.length) H1))
theorem pi_enumV {X : Cx} {e : Expr} {ta : TA} {p pos tpos : Pos} {elts : List Expr} {kk : Nat} (hg : Gl X "enumerate") (hm : X.mg "enumerate" = none) (ha : PA X [e] ta) (hs : starEach [e] X.env = [(false, eval e X.env)] := by rfl) :
    PI X (.Tuple elts kk tpos) (.Call (.Name "enumerate" p) [e] [] pos) (iEnumV X.K ta) := by
  refine ⟨fun pins s σ H R I h => ?_⟩
  refine Call_ (ld_blt I hg hm boot_enumerate (PyProof.Rows.callWith_type1 (thn (ha.run pos pins s σ H _ I h) fun us s1 ⟨vs, H1, I1, r1, q1⟩ => ?_) hs rfl))
  obtain ⟨a, xs, ex, z⟩ := q1
  subst ex
  cases r1 with
  | cons r rr =>
    cases rr
    cases r
    have fp2 : ∀ b ∈ [s1.heap.objs.size + 1, s1.heap.objs.size], FpOk X pins H1 b := fun b hb => by
      have ge : s1.heap.objs.size ≤ b := by
        rcases List.mem_cons.mp hb with z | z
        · rw [z]; exact Nat.le_add_right _ _
        · rw [List.mem_singleton.mp z]; exact Nat.le_refl _
      exact I1.fpOk ge (I1.hok.fresh ge)
    rcases z with ⟨hq, q⟩ | ⟨hq, q⟩
    · obtain ⟨its, rv, p', hz⟩ := I1.list hq
      refine call_enumB (begins_list a its.toArray) p'.isList fun h2 ee hit hk => wpAny_pyIter_enum ee ?_
      have I2 : Inv X pins σ H1 { s1 with heap := h2 } := I1.kept (t' := s1.toks) hk
      exact ⟨s1.heap.objs.size + 1, [s1.heap.objs.size + 1, s1.heap.objs.size], _, _, H1, rfl, I2, turn_enum a (s1.heap.objs.size + 1) s1.heap.objs.size, ⟨⟨.none, ee⟩, ⟨_, hit, rfl, rfl⟩, Nat.succ_ne_self _⟩, fp2, q⟩
    · obtain ⟨its, rv, p', hz⟩ := I1.tuple hq
      refine call_enumB (begins_tuple a its.toArray) p' fun h2 ee hit hk => wpAny_pyIter_enum ee ?_
      have I2 : Inv X pins σ H1 { s1 with heap := h2 } := I1.kept (t' := s1.toks) hk
      exact ⟨s1.heap.objs.size + 1, [s1.heap.objs.size + 1, s1.heap.objs.size], _, _, H1, rfl, I2, turn_enumT a (s1.heap.objs.size + 1) s1.heap.objs.size xs.length, ⟨⟨.none, ee⟩, ⟨_, hit, rfl, rfl⟩, Nat.succ_ne_self _, Nat.zero_le _⟩, fp2, q⟩
/-- the pairs of enumerate -/
def enums (xs : List D) : List D := xs.mapIdx fun i x => .tup [.int (i : Int), x]
def SqE (x : D) (G : HH) (R : List D → (HH → Prop) → HH → Prop) : Prop := (∃ xs, x = .tup xs ∧ R (enums xs) okT G) ∨ ∃ xs, LsW G x xs ∧ R (enums xs) (okL x xs) G
def iEnD (t : TAD) : TID := fun σ G R E => t σ G (fun ds G1 => ∃ x, ds = [x] ∧ SqE x G1 R) E
theorem enums_get {xs : List D} {i : Nat} {d : D} (h : (enums xs)[i]? = some d) : ∃ x, xs[i]? = some x ∧ d = .tup [.int (i : Int), x] := by
  unfold enums at h
  rw [List.getElem?_mapIdx] at h
  cases e : xs[i]? with
  | none => rw [e] at h; cases h
  | some x => rw [e] at h; cases h; exact ⟨x, rfl, rfl⟩
theorem enums_len {xs : List D} : (enums xs).length = xs.length := by simp [enums]
theorem pair_new {K : Frag} {H : Hp} {G : HH} {T : Addr} {i : Int} {x : V} {d : D} (hn : H T = none) (r : RelH K H G) (p : Rp K H G d x) :
    Stp H G (upd H T (.tup [.int i, x])) G ∧ RelH K (upd H T (.tup [.int i, x])) G ∧ Rp K (upd H T (.tup [.int i, x])) G (.tup [.int i, d]) (.ref T) :=
  have st : Stp H G (upd H T (.tup [.int i, x])) G := .new hn
  ⟨st, r.new hn, .tup (.inl ⟨upd_same, r.free hn⟩) (.cons (.int i) (.cons (p.mono st) .nil))⟩
theorem di_enum {X : Cx} {W : WX} {a : Expr} {t : TAD} {p pos tpos : Pos} {elts : List Expr} {kk : Nat} (hg : Gl X "enumerate") (hm : X.mg "enumerate" = none) (ha : DA X W [a] t) (hs : starEach [a] X.env = [(false, eval a X.env)] := by rfl) :
    DI X W (.Tuple elts kk tpos) (.Call (.Name "enumerate" p) [a] [] pos) (iEnD t) :=
  PI.imp (pi_enumV hg hm ha hs) fun σ H R ⟨σD, G, RD, E, hR, hS, q, hr, he⟩ => ⟨σD, G, _, E, hR, hS, q, fun vs H1 ds G1 s r p1 ⟨x, ex, z⟩ => by
    subst ex
    obtain ⟨v, rfl, p2⟩ := rps1 p1
    rcases z with ⟨xs, rfl, z⟩ | ⟨xs, ls, z⟩
    · cases p2 with
      | @tup b us _ f rr =>
        refine ⟨b, us, rfl, .inr ⟨f.sq, hr _ _ _ _ _ s r (fun i H2 G2 s2 r2 _ => ⟨fun d hd => ?_, fun hl => ⟨_, (f.mono s2).sq, by rw [← rr.length, ← enums_len]; exact hl, rfl⟩⟩) z⟩⟩
        obtain ⟨y, hy, rfl⟩ := enums_get hd
        obtain ⟨u, hu, pu⟩ := (rr.mono s2).get hy
        refine ⟨⟨_, u, (f.mono s2).sq, hu, rfl⟩, fun w H3 ⟨T, y', ew, hn, e3, hy'⟩ => ?_⟩
        have t := hy' _ (f.mono s2).sq
        rw [hu] at t
        cases t
        subst e3; subst ew
        exact pair_new hn r2 pu
    · obtain ⟨b, us, rfl, h1, rr⟩ := ls.of r p2
      refine ⟨b, us, rfl, .inl ⟨h1, hr _ _ _ _ _ s r (fun i H2 G2 s2 r2 ok2 => ?_) z⟩⟩
      obtain ⟨c, ws, e2, h2, r3⟩ := LsW.of ok2 r2 (p2.mono s2)
      cases e2
      refine ⟨fun d hd => ?_, fun hl => ⟨_, h2, by rw [← r3.length, ← enums_len]; exact hl⟩⟩
      obtain ⟨y, hy, rfl⟩ := enums_get hd
      obtain ⟨u, hu, pu⟩ := r3.get hy
      refine ⟨⟨_, u, h2, hu⟩, fun w H3 ⟨T, y', ew, hn, e3, hy'⟩ => ?_⟩
      have t := hy' _ h2
      rw [hu] at t
      cases t
      subst e3; subst ew
      exact pair_new hn r2 pu, he⟩
section
variable {σ : SD} {G : HH} {E : ED} {t : TAD} {R : List D → (HH → Prop) → HH → Prop}
theorem st_iEn (h : t σ G (fun ds G1 => ∃ x, ds = [x] ∧ SqE x G1 R) E) : iEnD t σ G R E := h
theorem st_enT {xs : List D} (h : R (enums xs) okT G) : ∃ x, [D.tup xs] = [x] ∧ SqE x G R := ⟨_, rfl, .inl ⟨xs, rfl, h⟩⟩
theorem st_enL {x : D} {xs : List D} (hl : LsW G x xs) (h : R (enums xs) (okL x xs) G) : ∃ y, [x] = [y] ∧ SqE y G R := ⟨_, rfl, .inr ⟨xs, hl, h⟩⟩
end
end DL

namespace DL
open PySem PySem.Spec PyProof.Rows L2
open PySem.W (Frag)
/-! ### x[::-1]: a list's, a tuple's -/
theorem back_adjust (n : Nat) : Builtin.Slice.sliceAdjust none none (-1) (n : Int) = ((n : Int) - 1, -1) := by
  unfold Builtin.Slice.sliceAdjust
  simp
theorem back_places (n : Nat) : Builtin.Slice.slicePlaces ((n : Int) - 1) (-1) (-1) = n := by
  unfold Builtin.Slice.slicePlaces
  have h1 : ¬ ((-1 : Int) > 0) := by decide
  rw [if_neg h1, show (- -1 : Int) = 1 by decide, Int.ediv_one]
  split <;> omega
theorem back_pick (xs : Array Value) : ((List.range xs.size).filterMap fun (k : Nat) => xs[((xs.size : Int) - 1 + (k : Int) * -1).toNat]?).toArray = xs.toList.reverse.toArray := by
  congr 1
  apply List.ext_getElem?
  intro i
  have hall : ∀ k ∈ List.range xs.size, (xs[((xs.size : Int) - 1 + (k : Int) * -1).toNat]?) = some ((xs.toList.reverse)[k]?.getD .none) := by
    intro k hk
    have hk' := List.mem_range.mp hk
    have e : ((xs.size : Int) - 1 + (k : Int) * -1).toNat = xs.size - 1 - k := by omega
    rw [e, List.getElem?_reverse (by simpa using hk')]
    simp only [Array.length_toList, Array.getElem?_toList]
    rw [Array.getElem?_eq_getElem (by omega)]
    rfl
  have gen : ∀ (l : List Nat) (f : Nat → Option Value) (g : Nat → Value), (∀ k ∈ l, f k = some (g k)) → l.filterMap f = l.map g := by
    intro l f g h
    induction l with
    | nil => rfl
    | cons a l ih => rw [List.filterMap_cons, h a List.mem_cons_self, List.map_cons, ih fun k hk => h k (List.mem_cons_of_mem _ hk)]
  have e2 := gen _ _ _ hall
  rw [e2, List.getElem?_map]
  by_cases hi : i < xs.size
  · rw [List.getElem?_range hi]
    rw [List.getElem?_eq_getElem (by simpa using hi)]
    simp [hi]
  · rw [List.getElem?_eq_none (by simpa using hi), List.getElem?_eq_none (by simpa using hi)]
    rfl
section
variable {prog : Program} {w : World} {A : Around} {E : Value → Shared → Prop} {s : Shared}
theorem applied_back {sl : Addr} {vs : Value} {n : Nat} {Q : Int × Int × Nat → Shared → Prop} (hs : s.heap.IsSliceOf sl .none .none vs) (ps : IsPart vs (some (-1)))
    (hq : Q ((n : Int) - 1, -1, n) s) : wpAny (model prog w) A (Builtin.Slice.sliceApplied (.ref sl) (pure (n : Int))) Q E s := by
  obtain ⟨os, hos, hcs, hds⟩ := id hs
  unfold Builtin.Slice.sliceApplied Builtin.Slice.sliceFields
  refine wpAny_bind (wpAny_bind (wpAny_field hos hds (x := .none) rfl (wpAny_bind (wpAny_field hos hds (x := .none) rfl (wpAny_bind (wpAny_field hos hds (x := vs) rfl (wpAny_pure ?_)))))))
  refine wpAny_bind (HT.slicePart_ ps ?_)
  show wpAny _ _ (if ((-1 : Int) == 0) = true then _ else _) _ _ s
  rw [if_neg (by decide)]
  refine wpAny_bind (HT.slicePart_ .none (wpAny_bind (HT.slicePart_ .none (wpAny_bind (wpAny_pure ?_)))))
  show wpAny _ _ (match Builtin.Slice.sliceAdjust none none (-1) (n : Int) with | (lo, hi) => pure (lo, (-1 : Int), Builtin.Slice.slicePlaces lo hi (-1))) _ _ s
  rw [back_adjust n]
  show wpAny _ _ (pure ((n : Int) - 1, (-1 : Int), Builtin.Slice.slicePlaces ((n : Int) - 1) (-1) (-1))) _ _ s
  rw [back_places]
  exact wpAny_pure hq
theorem getItem_tuple_back {t sl : Addr} {items : Array Value} {vs : Value} {Q : Value → Shared → Prop} (ht : IsTup s.heap t items) (hs : s.heap.IsSliceOf sl .none .none vs) (ps : IsPart vs (some (-1)))
    (hq : Q (.ref s.heap.objs.size) { s with heap := s.heap.push { cls := .type "tuple", data := .seq items.toList.reverse.toArray } })
    (hz : items.size ≤ sizeLine) : wpAny (model prog w) A (getItem (.ref t) (.ref sl)) Q E s := by
  have ok : sizeOk (.seq items.toList.reverse.toArray) := by
    show items.toList.reverse.toArray.size ≤ sizeLine
    simpa using hz
  obtain ⟨os, hos, hcs, hds⟩ := id hs
  have hTs : s.TypeIs (.ref sl) "slice" := ⟨os, hos, hcs⟩
  unfold getItem
  try with_reducible refine wpAny_holding ?_
  first | refine wpAny_bind (wpAny_pure ?_) | skip
  refine wpAny_bind (wpAny_sequenceKey ht.typeIs (by decide) ?_)
  refine wpAny_bind (wpAny_callSpecial?_slot (name := Str.ofString "__getitem__") ht.typeIs PyProof.Rows.slot_tuple_getitem
      (wpAny_call_entry PyProof.Rows.slot_tuple_getitem ht.typeIs PySem.F.entry_tuple_getitem ?_ (PySem.F.args_tuple_getitem_2 _ _)))
  show wpAny _ _ (Builtin.Tuple.tupleItemsOf (.ref t) >>= _) _ _ s
  refine wpAny_bind (PyProof.Rows.tupleItemsOf_ ht ?_)
  refine wpAny_bind (wpAny_typeOf hTs ?_)
  rw [if_pos (by decide)]
  refine wpAny_bind (applied_back hs ps ?_)
  have no : ¬ ((((items.size : Int) - 1) == 0 && (-1 : Int) == 1 && items.size == items.size) = true) := by
    rw [show ((-1 : Int) == 1) = false by decide, Bool.and_false, Bool.false_and]
    exact Bool.false_ne_true
  show wpAny _ _ (if (((items.size : Int) - 1) == 0 && (-1 : Int) == 1 && items.size == items.size) = true then _ else _) _ _ s
  rw [if_neg no, back_pick]
  first
    | exact wpAny_bind (m := Builtin.Tuple.tupleExact _) (wpAny_newObj_type (wpAny_pure ⟨_, rfl, wpAny_pure hq⟩) ok)
    | exact wpAny_bind (m := Builtin.Tuple.tupleExact _) (wpAny_newObj_type (wpAny_bind (wpAny_pure (wpAny_pure ⟨_, rfl, wpAny_pure hq⟩))) ok)
    | exact wpAny_bind (wpAny_bind (m := Builtin.Tuple.tupleExact _) (wpAny_newObj_type (wpAny_pure (wpAny_pure ⟨_, rfl, wpAny_pure hq⟩)) ok))
    | exact wpAny_bind (wpAny_bind (m := Builtin.Tuple.tupleExact _) (wpAny_newObj_type (wpAny_pure ⟨_, rfl, wpAny_pure hq⟩) ok))
end
def tRevA (K : Frag) (te : TE) : TE := fun σ H Q => te σ H fun x H1 => ∃ a xs, x = .ref a ∧ ((SqL K H1 a xs ∧ ∀ p, H1 p = none → Q (.ref p) (upd H1 p (.lst xs.reverse))) ∨ (SqT K H1 a xs ∧ ∀ p, H1 p = none → Q (.ref p) (upd H1 p (.tup xs.reverse))))
section
variable {X : Cx} {W : WX}
theorem pe_revA {e : Expr} {te : TE} {k : Nat} {p1 p2 p3 pos : Pos} (he : PE X e te) : PE X (.Subscript e (.Slice none none (some (.UnaryOp .USub (.Constant (.int 1) k p1) p2)) p3) pos) (tRevA X.K te) := by
  refine ⟨fun pins s σ H Q I h => ?_⟩
  refine Subscript_ (thn (he.run pins s σ H _ I h) fun v s1 ⟨x, H1, I1, r1, q1⟩ => ?_)
  obtain ⟨a, xs, ex, q1⟩ := q1
  subst ex
  cases r1
  have st : PO X (some (.UnaryOp .USub (.Constant (.int 1) k p1) p2)) (tPart (tUn (rU fun i => .int (-i)) (tC (.int 1)))) := po_some (pe_un un_neg pe_int)
  refine wpAny_Slice (thn (po_none.run pins s1 σ H1 (fun o H2 => o = none ∧ H2 = H1) I1 ⟨rfl, rfl⟩) fun vl s2 ⟨l, H2, I2, pl, el, e2⟩ => ?_)
  subst el e2
  refine thn (po_none.run pins s2 σ H2 (fun o H3 => o = none ∧ H3 = H2) I2 ⟨rfl, rfl⟩) fun vu s3 ⟨u, H3, I3, pu, eu, e3⟩ => ?_
  subst eu e3
  refine thn (st.run pins s3 σ H3 (fun o H4 => o = some (-1) ∧ H4 = H3) I3 ⟨1, rfl, -1, rfl, rfl, rfl⟩) fun vs s4 ⟨o, H4, I4, ps, eo, e4⟩ => ?_
  subst eo e4
  cases pl
  cases pu
  have I5 : Inv X pins σ H4 { s4 with heap := s4.heap.push { cls := .type "slice", data := .fields #[.none, .none, vs] } } := I4.kept (t' := s4.toks) fun b ob q => Heap.get?_push_of_some _ q
  show wpAny (model X.prog X.w) X.A (subscriptTail e (.Slice none none (some (.UnaryOp .USub (.Constant (.int 1) k p1) p2)) p3) (.ref a) (.ref s4.heap.objs.size)) (EP X pins σ Q) X.xe { s4 with heap := s4.heap.push { cls := .type "slice", data := .fields #[.none, .none, vs] } }
  rcases q1 with ⟨hx, q⟩ | ⟨hx, q⟩
  · obtain ⟨its, r, ht, hz⟩ := I5.list hx
    have hl := r.length
    refine tail_any (ops := [.ref a, .ref s4.heap.objs.size]) ht.isList.typeIs (PySem.slot_list_getitem.lookup) ?_ (by with_unfolding_all rfl)
    refine wpAny_getItem_list_slice ht.isList (Heap.IsSliceOf.new _ .none .none vs) .none .none ps (by decide) ?_ (by rw [List.size_toArray]; omega)
    rw [PySem.W.krv_pick]
    refine ⟨.ref _, _, I5.laid (t' := s4.toks) (o := .lst xs.reverse) (fun b ob z => Heap.get?_push_of_some _ z) (Nat.le_refl _) ?_, rfl, q _ (I5.hok.fresh (Nat.le_refl _))⟩
    exact ⟨by rw [List.length_reverse]; exact hz, _, 0, r.reverse, Heap.get?_push_size _ rfl⟩
  · obtain ⟨its, r, ht, hz⟩ := I5.tuple hx
    have hl := r.length
    refine tail_any (ops := [.ref a, .ref s4.heap.objs.size]) ht.typeIs (PyProof.Rows.slot_tuple_getitem.lookup) ?_ (by with_unfolding_all rfl)
    refine getItem_tuple_back ht (Heap.IsSliceOf.new _ .none .none vs) ps ?_ (by rw [List.size_toArray]; omega)
    refine ⟨.ref _, _, I5.laid (t' := s4.toks) (o := .tup xs.reverse) (fun b ob z => Heap.get?_push_of_some _ z) (Nat.le_refl _) ?_, rfl, q _ (I5.hok.fresh (Nat.le_refl _))⟩
    exact ⟨by rw [List.length_reverse]; exact hz, _, r.reverse, IsTup.new _ _⟩
def reD (x : D) (G : HH) (Q : QD) : Prop := (∃ xs, LsW G x xs ∧ Q (.lst xs.reverse) G) ∨ ∃ xs, x = .tup xs ∧ Q (.tup xs.reverse) G
def dRev (te : TED) : TED := fun σ G Q E => te σ G (fun x G1 => reD x G1 Q) E
theorem de_rev {e : Expr} {te : TED} {k : Nat} {p1 p2 p3 pos : Pos} (he : DE X W e te) : DE X W (.Subscript e (.Slice none none (some (.UnaryOp .USub (.Constant (.int 1) k p1) p2)) p3) pos) (dRev te) :=
  PE.imp (pe_revA he) fun σ H Q ⟨σD, G, QD, E, hR, hS, q, hq, he⟩ => by
    refine ⟨σD, G, _, E, hR, hS, q, fun v1 H1 d1 G1 s1 r1 p1 q1 => ?_, he⟩
    have hq1 := hq.mono s1
    rcases q1 with ⟨xs, s, q1⟩ | ⟨xs, hx, q1⟩
    · obtain ⟨a, vs, rfl, hL, r⟩ := s.of r1 p1
      exact ⟨a, vs, rfl, .inl ⟨hL, fun p hp => hq1.lst r1 hp r.reverse q1⟩⟩
    · subst hx
      cases p1 with
      | tup f r => exact ⟨_, _, rfl, .inr ⟨f.sq, fun p hp => hq1.tup r1 hp r.reverse q1⟩⟩
end
section
variable {σ : SD} {G : HH} {E : ED} {te : TED} {Q : QD} {x : D} {xs : List D}
theorem st_rev (h : te σ G (fun x G1 => reD x G1 Q) E) : dRev te σ G Q E := h
theorem st_revT (h : Q (.tup xs.reverse) G) : reD (.tup xs) G Q := .inr ⟨xs, rfl, h⟩
theorem st_revL (hl : LsW G x xs) (h : Q (.lst xs.reverse) G) : reD x G Q := .inl ⟨xs, hl, h⟩
end
end DL

namespace DL
open PySem PySem.Spec PyProof.Rows L2
/-! ### marks: the form of a goal -/
theorem mk_E {t : TED} {σ : SD} {G : HH} {Q : QD} {E : ED} (h : t σ G Q E) : t σ G Q E := h
theorem mk_F {β : Type} {t : SD → HH → β → ED → Prop} {σ : SD} {G : HH} {Q : β} {E : ED} (h : t σ G Q E) : t σ G Q E := h
theorem mk_R {r : D → D → HH → QD → Prop} {x y : D} {G : HH} {Q : QD} (h : r x y G Q) : r x y G Q := h
theorem mk_K {k : List D → HH → QD → Prop} {ds : List D} {G : HH} {Q : QD} (h : k ds G Q) : k ds G Q := h
theorem mk_S {t : EndsD → SD → HH → Prop} {D' : EndsD} {σ : SD} {G : HH} (h : t D' σ G) : t D' σ G := h
theorem mk_X {α : Type} {p : α → Prop} (h : ∃ x, p x) : ∃ x, p x := h
theorem mk_I {c : Prop} [i : Decidable c] {a b : Prop} (h : if c then a else b) : if c then a else b := h
end DL
namespace DL
theorem mk_i {b : Bool} {x y : D} {G : HH} {Q : QD} (h : iAny b x y G Q) : iAny b x y G Q := h
theorem mk_e {b : Bool} {x y : D} {G : HH} {Q : QD} (h : eAny b x y G Q) : eAny b x y G Q := h
theorem mk_A {a b : Prop} (h : a ∧ b) : a ∧ b := h
end DL

namespace DL
open PySem PySem.Spec PyProof.Rows L2
open PySem.W (Frag)
/-! ### cuts within an expression -/
theorem st_cutE {t : TED} {σ : SD} {G : HH} {Q : QD} {E : ED} (P : D → HH → Prop) (h : ∀ Q' : QD, (∀ d G', P d G' → Q' d G') → t σ G Q' E) (k : ∀ d G', P d G' → Q d G') : t σ G Q E := h Q k
theorem st_cutT {t : TTD} {σ : SD} {G : HH} {Q : Bool → HH → Prop} {E : ED} (P : Bool → HH → Prop) (h : ∀ Q' : Bool → HH → Prop, (∀ d G', P d G' → Q' d G') → t σ G Q' E) (k : ∀ d G', P d G' → Q d G') : t σ G Q E := h Q k
/-- all but two addresses stay -/
def But2 (p q : Addr) (G G' : HH) : Prop := ∀ b, b ≠ p → b ≠ q → G' b = G b
theorem But2.new {p q : Addr} {G : HH} {o : HOD} : But2 p q G (gput G q o) := fun _ _ h => gput_ne h
theorem But2.then {p q : Addr} {G G1 G2 : HH} (a : But2 p q G G1) (b : But p G1 G2) : But2 p q G G2 := fun c h k => (b c h).trans (a c h k)
theorem But2.trans {p q : Addr} {G G1 G2 : HH} (a : But2 p q G G1) (b : But2 p q G1 G2) : But2 p q G G2 := fun c h k => (b c h k).trans (a c h k)
theorem But2.put {p q : Addr} {G G1 : HH} {o : HOD} (a : But2 p q G G1) : But2 p q G (gput G1 q o) := fun c h k => (gput_ne k).trans (a c h k)
theorem But2.del {p q : Addr} {G G1 : HH} (a : But2 p q G G1) (e : G q = none) : But p G (gdel G1 q) := fun c h => by
  by_cases k : c = q
  · subst k; rw [gdel_same, e]
  · rw [gdel_ne k]; exact a c h k
theorem But2.at {p q r : Addr} {G G' : HH} {o : HOD} (b : But2 p q G G') (h : r ≠ p) (k : r ≠ q) (e : G r = some o) : G' r = some o := (b r h k).trans e
theorem But2.refl {p q : Addr} {G : HH} : But2 p q G G := fun _ _ _ => rfl
end DL

namespace DL
open PySem PySem.Spec PyProof.Rows L2
open PySem.W (Frag)
/-! ### C.m(..), C a class of the program by its name, m a staticmethod of it -/
structure SMet (K : Frag) (C : Addr) (mc : Value) (m : Str) (p g : Addr) : Prop where
  rd : PySem.W.readsIn K C mc = true
  ga : PySem.W.specialIn K (.ref C) "__getattribute__" = some (some (.builtin "type.__getattribute__"))
  at_ : PySem.W.findCls K (.ref C) mc m = some (.get (.builtin "staticmethod.__get__") (.ref p) .none (.ref C))
  rc : ∃ rest, PySem.W.recIn K p "staticmethod" = some (.ref g :: rest)
  hv : PySem.W.handedIn (.ref g) = true
theorem getsmet_ok {X : Cx} {pins : List (Addr × Obj)} {σ : L2.St} {H : Hp} {s : Shared} {C p g : Addr} {mc : Value} {m : Str} {A : Around} {E : Value → Shared → Prop} {pl : Sem Bool} {Q : Value × List Value → Shared → Prop} (I : Inv X pins σ H s) (r : SMet X.K C mc m p g)
    (h : ∀ s', Inv X pins σ H s' → Q (.ref g, []) s') : wpAny (model X.prog X.w) A (getMethod (.ref C) m pl) Q E s := by
  obtain ⟨rest, hp⟩ := r.rc
  refine PySem.W.method_cls I.kIn r.ga (PySem.W.cls_bind I.kIn r.rd r.at_ (wpAny_call (PySem.W.sm_get (s := { s with toks := s.toks + 1 }) I.kIn hp (PySem.W.handed_on r.hv ?_))))
  exact h _ (I.tok _)
section
variable {X : Cx} {W : WX} {k : Nat} {C p g : Addr} {fd : FuncData} {ps : List Str} {mc : Value} {m x : Str} {sp : SpD} {e : Expr} {es : List Expr} {pos apos p0 : Pos} {t : TAD} {pl : Sem Bool}
theorem de_smeth (r : SMet X.K C mc m p g) (F : FnG X.prog X.w X.K X.mg X.base k g fd ps sp) (hgd : X.A.guards = some []) (hr : Room k X.A) (hg : Gl X x) (hm : X.mg x = some (.ref C)) (hk : PySem.W.keepIn X.K (.ref g) = true) (hb : Binds X.K fd ps []) (tk : Takes X W)
    (ha : DA X W (e :: es) t) (hdb : (x == ("__debug__" : Str)) = false := by decide) (he : starEach (e :: es) X.env = (false, eval e X.env) :: starEach es X.env := by rfl) (hpl : (backTo pos (starEach es X.env)).any (·.1) = false := by rfl)
    (ht : eval (.Call (.Attribute (.Name x p0) m apos) (e :: es) [] pos) X.env = (do
      let ov ← eval (.Name x p0) X.env
      standAt apos.atName
      let (f, first) ← holding [ov] (getMethod ov m pl)
      callWith pos f first (backTo pos (starEach (e :: es) X.env)) (backToKw pos (keywordEach [] X.env))) := by rfl) :
    DE X W (.Call (.Attribute (.Name x p0) m apos) (e :: es) [] pos) (dCall sp t) := by
  refine PE.imp (t := tCallS (lsp X.K sp) (WE W) (lftA X.K W t)) ⟨fun pins s σ H Q I h => ?_⟩ fun _ _ _ => lft_call
  have ha' : PA X (e :: es) (lftA X.K W t) := ha
  refine PySem.W.methodCall_KW (pl := pl) (ld_glob I hg hm (getsmet_ok I r fun s2 I2 => ?_) hdb) ht
  exact PySem.W.callWith_K (h₀ := X.base) I2.ok.mod.kin hk (thn (ha'.run pos pins s2 σ H _ I2 h) fun us s1 ⟨vs, H1, I1, r, q⟩ => ⟨I1.kIn, run_call F hgd hr hb tk I1 r q⟩) he hpl
theorem de_smeth0 (r : SMet X.K C mc m p g) (F : FnG X.prog X.w X.K X.mg X.base k g fd ps sp) (hgd : X.A.guards = some []) (hr : Room k X.A) (hg : Gl X x) (hm : X.mg x = some (.ref C)) (hk : PySem.W.keepIn X.K (.ref g) = true) (hb : Binds X.K fd ps []) (tk : Takes X W)
    (hdb : (x == ("__debug__" : Str)) = false := by decide)
    (ht : eval (.Call (.Attribute (.Name x p0) m apos) [] [] pos) X.env = (do
      let ov ← eval (.Name x p0) X.env
      standAt apos.atName
      let (f, first) ← holding [ov] (getMethod ov m pl)
      callWith pos f first (backTo pos (starEach [] X.env)) (backToKw pos (keywordEach [] X.env))) := by rfl) :
    DE X W (.Call (.Attribute (.Name x p0) m apos) [] [] pos) (dCall sp dNil) := by
  refine PE.imp (t := tCallS (lsp X.K sp) (WE W) tNil) ⟨fun pins s σ H Q I h => ?_⟩ fun σ H Q ⟨σD, G, QD, E, hR, hS, q, hq, he⟩ => ⟨[], G, QD, E, hR, .nil, q, hq, he⟩
  refine PySem.W.methodCall_KW (pl := pl) (ld_glob I hg hm (getsmet_ok I r fun s2 I2 => ?_) hdb) ht
  exact PySem.W.callWith_K0 I2.kIn hk (run_call (us := []) F hgd hr hb tk I2 .nil h)
end
/-! ### d.setdefault(k, v) -/
def dDSetd (td ty tx : TED) : TED := fun σ G Q E => td σ G (fun x G1 => IsDD G1 x ∧ ty σ G1 (fun y G2 => tx σ G2 (fun z G3 => ∃ p kvs k, x = .ref p ∧ G3 p = some (.dK kvs) ∧ dkey y = some k ∧ kvs.length < sizeLine ∧
  (∀ v, kget kvs k = some v → Q v G3) ∧ (kget kvs k = none → Q z (gput G3 p (.dK (kput kvs k z))))) E) E) E
section
variable {X : Cx} {W : WX} {o e f : Expr} {apos cpos : Pos} {td ty tx : TED} {σ : SD} {G : HH} {Q : QD} {E : ED}
theorem de_dsetd (ho : DE X W o td) (he : DE X W e ty) (hf : DE X W f tx) (m : M2 X o "setdefault" apos e f cpos) : DE X W (.Call (.Attribute o "setdefault" apos) [e, f] [] cpos) (dDSetd td ty tx) :=
  PE.imp (pe_dsetd ho he hf m) fun σ H Q ⟨σD, G, QD, E, hR, hS, q, hq, hE⟩ => by
    refine ⟨σD, G, _, E, hR, hS, q, fun v1 H1 d1 G1 s1 r1 p1 ⟨hi, q1⟩ => ?_, hE⟩
    obtain ⟨a, e1, hd⟩ := hi.of r1 p1
    refine ⟨a, e1, hd, σD, G1, _, E, r1, hS.mono s1, q1, fun v2 H2 d2 G2 s2 r2 p2 q2 => ?_, hE.mono s1⟩
    refine ⟨σD, G2, _, E, r2, hS.mono (s1.trans s2), q2, fun v3 H3 d3 G3 s3 r3 p3 ⟨p, kvs, k, e2, e3, e4, hl, h5, h6⟩ => ?_, hE.mono (s1.trans s2)⟩
    subst e2
    subst e1
    cases p1
    obtain ⟨xs, h1, h2⟩ := r3 _ _ e3
    have h2 : KRp X.K H3 G3 kvs xs := h2
    have hg := KRp.get (k := k) h2
    refine ⟨xs, k, h1, dkey_of (p2.mono s3) e4, by rw [← h2.length]; exact hl, fun v hv => ?_, fun hn => ?_⟩
    · rcases hg with ⟨_, z⟩ | ⟨d, w, g1, g2, pw⟩
      · exact absurd (hv.symm.trans z) (by simp)
      · have : v = w := Option.some.inj (hv.symm.trans g2)
        subst this
        exact hq _ _ _ _ ((s1.trans s2).trans s3) r3 pw (h5 d g1)
    · rcases hg with ⟨z, _⟩ | ⟨d, w, g1, g2, pw⟩
      · have s4 := Stp.put (H := H3) (o := .dK (putK xs k v3)) (od := .dK (kput kvs k d3)) e3
        exact hq _ _ _ _ (((s1.trans s2).trans s3).trans s4) (r3.put e3 ⟨_, upd_same, (h2.mono s4).put (p3.mono s4)⟩) (p3.mono s4) (h6 z)
      · exact absurd (hn.symm.trans g2) (by simp)
theorem st_dsetd (h : td σ G (fun x G1 => IsDD G1 x ∧ ty σ G1 (fun y G2 => tx σ G2 (fun z G3 => ∃ p kvs k, x = .ref p ∧ G3 p = some (.dK kvs) ∧ dkey y = some k ∧ kvs.length < sizeLine ∧
  (∀ v, kget kvs k = some v → Q v G3) ∧ (kget kvs k = none → Q z (gput G3 p (.dK (kput kvs k z))))) E) E) E) : dDSetd td ty tx σ G Q E := h
end
/-! // and % by any number -/
abbrev aDivN := oI CDivN fun i j => .int (i.fdiv j)
abbrev aModN := oI (fun _ j => j ≠ 0) fun i j => .int (i.fmod j)
theorem st_methOP {c m : Str} {ns : List Str} {ds : List D} {G : HH} {P : Prop} (hl : lk m ns ds = none) (h : P) : ∃ ns' ds', InsD G (.obj c ns ds) c ns' ds' ∧ lk m ns' ds' = none ∧ P := ⟨ns, ds, .obj c ns ds, hl, h⟩
/-! ### l.index(x), any data -/
def tyLs : D → HH → Prop := fun x G => ∃ xs, Ls G x xs
theorem tyLs_v {K : Frag} {H : Hp} {G : HH} {d : D} {v : V} (r : RelH K H G) (p : Rp K H G d v) (h : tyLs d G) : tyV K "list" v H := by
  obtain ⟨xs, h⟩ := h
  obtain ⟨a, vs, rfl, ha, _⟩ := h.of r p
  exact .inl ⟨rfl, vs, .inl (.inl ha)⟩
def mIndex : D → List D → HH → QD → Prop := fun x us G Q => ∃ (y : D) (d : PyData) (xs : List D) (ds : List PyData) (j : Nat) (z : PyData), us = [y] ∧ Ls G x xs ∧ Py G x (.list ds) ∧ Py G y d ∧
  SeqAt.shaped (.list ds) = true ∧ SeqAt.shaped d = true ∧ ds[j]? = some z ∧ PyData.eqv z d = true ∧ (∀ (m : Nat) (z' : PyData), m < j → ds[m]? = some z' → PyData.eqv z' d = false) ∧ Q (.int (j : Nat)) G
theorem mdIndex {X : Cx} (hu : X.A.units + 65 < cLine) : MtD X "list" "list.index" tyLs mIndex := ⟨fun _ _ _ _ => tyLs_v, _, mt_indexD hu, fun x us H Q d ds G QD hR hp hps ⟨y, dd, xs, pds, j, z, e1, e2, e3, e4, s1, s2, h1, h2, h3, q⟩ hq => by
  subst e1
  obtain ⟨w, rfl, py⟩ := rps1 hps
  obtain ⟨a, vs, rfl, ha, _⟩ := e2.of hR hp
  exact ⟨a, w, dd, pds, j, z, rfl, rfl, e3.dp hR hp, e4.dp hR py, s1, s2, h1, h2, h3, hq _ _ _ _ Stp.refl hR (.int _) q⟩⟩
theorem de_index {X : Cx} {W : WX} {o e : Expr} {es : List Expr} {apos cpos : Pos} {to : TED} {t : TAD} (hu : X.A.units + 65 < cLine) (ho : DE X W o to) (ha : DA X W (e :: es) t)
    (hbase : attributeBase o "index" X.env (eval o X.env) = eval o X.env := by rfl)
    (hfew : ((backTo cpos (starEach (e :: es) X.env)).all (fun x => !x.1) && (backToKw cpos (keywordEach [] X.env)).all (fun x => x.1.isSome)
      && decide ((e :: es).length + ([] : List Keyword).length + (if ([] : List Keyword).isEmpty then 0 else 1) < 30)) = true := by rfl)
    (hline : (apos.endLine == cpos.line) = true := by rfl) (hs : starEach (e :: es) X.env = (false, eval e X.env) :: starEach es X.env := by rfl) (hplain : (backTo cpos (starEach es X.env)).any (·.1) = false := by rfl) :
    DE X W (.Call (.Attribute o "index" apos) (e :: es) [] cpos) (dBM tyLs mIndex to t) := de_bm PySem.F.plainAttrs_list PySem.F.slot_list_index PySem.F.type_list_index (mdIndex hu) ho ha hbase hfew hline hs hplain
end DL

namespace DL
open PySem PySem.Spec PyProof.Rows L2
open PySem.W (Frag)
/-! ### defs whose exceptions have no context -/
theorem cx_of_n {P : Program} {w : World} {outer : List Env} {H : Hp} {s s' : Shared} {E : XK} {u : Value} (h : L2N.CX P w outer H s E u s') : L2.CX P w outer H s E u s' := by
  obtain ⟨a, B, H', cls, d, e, f, r⟩ := h
  exact ⟨a, B, H', cls, d, e, L2H.flyingZ_imp (fun o z => z.zc) f, r⟩
structure FnN (P : Program) (w : World) (K : Frag) (mg : Str → Option Value) (base : Heap) (k : Nat) (f : Addr) (fd : FuncData) (ps : List Str) (sp : SpD) : Prop where
  len : ∀ ds G Q E, sp ds G Q E → ds.length = ps.length
  run : ∀ (A : Around) (outer : List Env) (s : Shared) (H : Hp) (args : Args) (us : List Value) (vs : List V) (Q : VK) (E : XK), A.guards = some [] → Room k A → Env0 P w K mg base A outer s H → BindsTo s fd args (ps.zip us) → Vals vs us → lsp K sp vs H Q E →
    codeAny (model P w) A (.call (.ref f) args) (CR (L2N.CX P w) outer P w H s Q E) s
theorem FnN.g {P w K mg base k f fd ps sp} (F : FnN P w K mg base k f fd ps sp) : FnG P w K mg base k f fd ps sp :=
  ⟨F.len, fun A outer s H args us vs Q E hg hr he hb hv h => codeAny_mono (F.run A outer s H args us vs Q E hg hr he hb hv h) fun r s' z => by
    cases r with
    | error e => exact cx_of_n z
    | ok fl => cases fl <;> exact z⟩
theorem FnN.mono {P w K mg base j k f fd ps sp} (F : FnN P w K mg base j f fd ps sp) (h : j ≤ k) : FnN P w K mg base k f fd ps sp :=
  ⟨F.len, fun A outer s H args us vs Q E hg hr => F.run A outer s H args us vs Q E hg (hr.mono h)⟩
theorem FnN.llen {P w K mg base k f fd ps sp} (F : FnN P w K mg base k f fd ps sp) {vs H Q E} (h : lsp K sp vs H Q E) : vs.length = ps.length := F.g.llen h
section
variable {P : Program} {w : World} {K : Frag} {mg : Str → Option Value} {base : Heap}
theorem FunG.okN {x qual : Str} {st : Stmt} {f : Addr} {fd : FuncData} {N ps : List Str} {k : Nat} {sp : SpD} (F : Fun K x qual st f fd) (S : FnScope N ps (defScope st)) (len : ∀ ds G Q E, sp ds G Q E → ds.length = ps.length)
    (hbody : ∀ (cdv : Value) (A : Around) (outer : List Env) (s : Shared) (H : Hp) (E : XK), A.guards = some [] → Room k (A.deeper (envOfC qual (defScope st) s.heap.objs.size f cdv)) →
      ∃ t, DSs (cxOf (L2N.CX P w) P w K mg base N qual (defScope st) f cdv A outer s H E) (WD E) (defBody st) t ∧
        ∀ ds G Q EX, sp ds G Q EX → t { nx := fun _ G' => Q .non G', rt := Q, ex := fun x _ G' => EX x G' } (startD N ds) G) : FnN P w K mg base (k + 1) f fd ps sp := by
  obtain ⟨oc, od, kV, doc, pm, an, cdv, ct, osl, rfl, lk, hcd⟩ := F.ex
  refine ⟨len, fun A outer s H args us vs Q E hgd hr e0 hb r hsp => ?_⟩
  obtain ⟨ds, G, QD, EX, hR, hrp, hq, hct, hex⟩ := hsp
  have inK : K.In s.heap := e0.mod.kin.keeps fun b o q => (e0.bs b o q).1
  have nolim : s.heap.NoLimit := e0.mod.nolimit.keeps fun b o q => (e0.bs b o q).1
  have hvl : vs.length = ps.length := by rw [← hrp.length]; exact len _ _ _ _ hq
  have kinds : ∀ y ∈ ps.zip us, (defScope st).names.lookup y.1 = some .local ∨ ((defScope st).names.lookup y.1 = some .cell ∧ ((cellsFrom (s.heap.objs.size + 1) (defScope st).names []).lookup y.1).isSome = true) := by
    rintro ⟨n, v⟩ hy
    rcases S.par n (List.of_mem_zip hy).1 with q | q
    · exact .inl q
    · exact .inr ⟨q, PySem.W.cellsFrom_some _ _ _ (.inl q)⟩
  refine codeAny_call_function hr.depth (inK _ _ lk) rfl S.co S.gen rfl (PySem.W.codeRec_of inK hcd) (hb _ _ _ _ ?_)
  refine wpAny_newFunctionEnv_cells S.kind kinds fun env henv s1 xc => ?_
  subst henv
  refine ⟨nolim.keeps xc.toInCall.keep, codeAny_func ?_⟩
  obtain ⟨t, ht, hv⟩ := hbody cdv A outer s H E hgd (hr.deeper _)
  have I0 := inv_start (CX := L2N.CX P w) (E := E) S hr.hd e0 hvl r xc
  refine wpAny_mono (ht.run [] s1 (L2.start N vs) H { nx := fun _ H' => Q .non H', rt := Q } I0 ?_) (fun fl s' hs => ?_) fun e s' hs => hs
  · refine ⟨startD N ds, G, _, hR, SRp.start hrp, hv ds G QD EX hq, ⟨fun _ H' _ G' s r _ z => hct _ _ _ _ s r .non z, hct, fun _ _ _ _ _ _ _ z => z.elim, fun _ _ _ _ _ _ _ z => z.elim, fun x cls d _ _ H' G' s r _ p z => hex x cls d H' G' s r p z⟩⟩
  · cases fl with
    | ret u =>
      obtain ⟨v, σ', H', J, rv, q⟩ := hs
      exact ⟨v, H', J.os, J.bare, J.base, J.hok, rv, q⟩
    | next =>
      obtain ⟨σ', H', J, q⟩ := hs
      exact ⟨V.non, H', J.os, J.bare, J.base, J.hok, rfl, q⟩
    | brk => exact hs.elim fun _ ⟨_, _, z⟩ => z.elim
    | cont => exact hs.elim fun _ ⟨_, _, z⟩ => z.elim
end
section
variable {X : Cx} {W : WX} {k : Nat} {f : Addr} {fd : FuncData} {ps : List Str} {x : Str} {p pos : Pos} {sp : SpD} {e : Expr} {es : List Expr} {t : TAD}
theorem run_anyN {pins : List (Addr × Obj)} {σ : L2.St} {H : Hp} {s : Shared} {Q : VK} {us : List Value} {vs : List V} {args : Args} (F : FnN X.prog X.w X.K X.mg X.base k f fd ps sp) (hg : X.A.guards = some []) (hr : Room k X.A) (tk : L2N.Takes X W)
    (I : Inv X pins σ H s) (hb : BindsTo s fd args (ps.zip us)) (r : Vals vs us) (h : lsp X.K sp vs H Q (WE W σ)) : codeAny (model X.prog X.w) X.A (.call (.ref f) args) (fun r s' => match r with | .ok (.ret u) => EP X pins σ Q u s' | .ok _ => False | .error e => X.xe e s') s := by
  refine codeAny_mono (F.run X.A X.stack s H args us vs Q (WE W σ) hg hr I.env0 hb r h) fun r s' hq => ?_
  cases r with
  | error e => exact L2N.passAt tk σ pins H s e s' I hq
  | ok fl =>
    cases fl with
    | ret u => exact I.after hq
    | next => exact False.elim hq
    | brk => exact False.elim hq
    | cont => exact False.elim hq
theorem run_callN {pins : List (Addr × Obj)} {σ : L2.St} {H : Hp} {s : Shared} {Q : VK} {us : List Value} {vs : List V} (F : FnN X.prog X.w X.K X.mg X.base k f fd ps sp) (hg : X.A.guards = some []) (hr : Room k X.A) (hb : Binds X.K fd ps []) (tk : L2N.Takes X W)
    (I : Inv X pins σ H s) (r : Vals vs us) (h : lsp X.K sp vs H Q (WE W σ)) : wpAny (model X.prog X.w) X.A (call (.ref f) us) (EP X pins σ Q) X.xe s := by
  have hl : us.length = ps.length := by rw [← r.length]; exact F.llen h
  have b := hb s us I.kIn (by rw [List.append_nil]; exact hl)
  rw [List.append_nil] at b
  refine wpAny_call (codeAny_mono (run_anyN F hg hr tk I b r h) fun r s' hq => ?_)
  cases r with
  | error e => exact hq
  | ok fl =>
    cases fl with
    | ret u => exact hq
    | next => exact False.elim hq
    | brk => exact False.elim hq
    | cont => exact False.elim hq
theorem de_callN (F : FnN X.prog X.w X.K X.mg X.base k f fd ps sp) (hgd : X.A.guards = some []) (hr : Room k X.A) (hg : Gl X x) (hm : X.mg x = some (.ref f)) (hk : PySem.W.keepIn X.K (.ref f) = true) (hb : Binds X.K fd ps []) (tk : L2N.Takes X W)
    (ha : DA X W (e :: es) t) (hdb : (x == ("__debug__" : Str)) = false := by decide) (he : starEach (e :: es) X.env = (false, eval e X.env) :: starEach es X.env := by rfl) (hpl : (backTo pos (starEach es X.env)).any (·.1) = false := by rfl) :
    DE X W (.Call (.Name x p) (e :: es) [] pos) (dCall sp t) := by
  refine PE.imp (t := tCallS (lsp X.K sp) (WE W) (lftA X.K W t)) ⟨fun pins s σ H Q I h => ?_⟩ fun _ _ _ => lft_call
  refine wpAny_Call_Name_kw (ld_glob I hg hm ?_ hdb)
  have ha' : PA X (e :: es) (lftA X.K W t) := ha
  exact PySem.W.callWith_K (h₀ := X.base) I.ok.mod.kin hk (thn (ha'.run pos pins s σ H _ I h) fun us s1 ⟨vs, H1, I1, r, q⟩ => ⟨I1.kIn, run_callN F hgd hr hb tk I1 r q⟩) he hpl
/-! ### quiet calls: of a def that lets no exception out -/
abbrev EF : ED := fun _ _ => False
theorem run_quiet {pins : List (Addr × Obj)} {σ : L2.St} {H : Hp} {s : Shared} {Q : VK} {us : List Value} {vs : List V} (F : FnG X.prog X.w X.K X.mg X.base k f fd ps sp) (hg : X.A.guards = some []) (hr : Room k X.A) (hb : Binds X.K fd ps [])
    (I : Inv X pins σ H s) (r : Vals vs us) (h : lsp X.K sp vs H Q (fun _ _ _ => False)) : wpAny (model X.prog X.w) X.A (call (.ref f) us) (EP X pins σ Q) X.xe s := by
  have hl : us.length = ps.length := by rw [← r.length]; exact F.llen h
  have b := hb s us I.kIn (by rw [List.append_nil]; exact hl)
  rw [List.append_nil] at b
  refine wpAny_call (codeAny_mono (F.run X.A X.stack s H _ us vs Q (fun _ _ _ => False) hg hr I.env0 b r h) fun r s' hq => ?_)
  cases r with
  | error e =>
    obtain ⟨_, _, _, _, _, _, _, _, _, _, _, _, z⟩ := hq
    exact z.elim
  | ok fl =>
    cases fl with
    | ret u => exact I.after hq
    | next => exact False.elim hq
    | brk => exact False.elim hq
    | cont => exact False.elim hq
def dCallQ (sp : SpD) (t : TAD) : TED := fun σ G Q E => t σ G (fun ds G1 => sp ds G1 Q EF) E
theorem de_callQ (F : FnG X.prog X.w X.K X.mg X.base k f fd ps sp) (hgd : X.A.guards = some []) (hr : Room k X.A) (hg : Gl X x) (hm : X.mg x = some (.ref f)) (hk : PySem.W.keepIn X.K (.ref f) = true) (hb : Binds X.K fd ps [])
    (ha : DA X W (e :: es) t) (hdb : (x == ("__debug__" : Str)) = false := by decide) (he : starEach (e :: es) X.env = (false, eval e X.env) :: starEach es X.env := by rfl) (hpl : (backTo pos (starEach es X.env)).any (·.1) = false := by rfl) :
    DE X W (.Call (.Name x p) (e :: es) [] pos) (dCallQ sp t) := by
  have ha' : PA X (e :: es) (lftA X.K W t) := ha
  refine ⟨fun pins s σ H Q I ⟨σD, G, QD, E, hR, hS, q, hq, hE⟩ => ?_⟩
  refine wpAny_Call_Name_kw (ld_glob I hg hm ?_ hdb)
  refine PySem.W.callWith_K (h₀ := X.base) I.ok.mod.kin hk (thn (ha'.run pos pins s σ H (fun vs H1 => lsp X.K sp vs H1 Q (fun _ _ _ => False)) I ⟨σD, G, _, E, hR, hS, q, fun vs H1 ds G1 s1 r1 p1 q1 => ?_, hE⟩) fun us s1 ⟨vs, H1, I1, r, z⟩ => ⟨I1.kIn, run_quiet F hgd hr hb I1 r z⟩) he hpl
  exact ⟨ds, G1, QD, EF, r1, p1, q1, hq.mono s1, fun _ _ _ _ _ _ _ _ z => z⟩
theorem st_callQ {σ : SD} {G : HH} {Q : QD} {E : ED} (h : t σ G (fun ds G1 => sp ds G1 Q EF) E) : dCallQ sp t σ G Q E := h
end
end DL

namespace DL
open PySem PySem.Spec PyProof.Rows L2
open PySem.W (Frag)
/-! ### raise, the exception without a context -/
section
variable {X : Cx} {W : WX} {e : Expr} {es : List Expr} {pos pos' : Pos}
theorem pmk_oexN {CX : CXT} {x : Str} {p : Pos} {ta : TA} {C fI : Addr} {k : Nat} {fd : FuncData} {ps : List Str} {sp : Sp} (T : OexC X.K C) (iC : PySem.W.findIn X.K (.ref C) "__init__" = some (some (.ref fI))) (tI : PySem.W.typeIn X.K (.ref fI) = some (.type "function"))
    (F1 : FnOk X.prog X.w X.K X.mg X.base CX k fI fd ps sp) (hr : Room (k + 1) X.A) (hb : Binds X.K fd ps []) (hx : Passes CX X (fun _ _ _ => False)) (hg : Gl X x) (hm : X.mg x = some (.ref C)) (ha : PA X (e :: es) ta)
    (hdb : (x == ("__debug__" : Str)) = false := by decide) (he : starEach (e :: es) X.env = (false, eval e X.env) :: starEach es X.env := by rfl) (hpl : (backTo pos (starEach es X.env)).any (·.1) = false := by rfl) :
    L2N.PMk X (.Call (.Name x p) (e :: es) [] pos) (tMkO C sp [] ta) := by
  intro pins s σ H Q I h
  obtain ⟨nm, q, N, bs, bm, sn, sub, ab, col, dd, k0, k1, k2, k3, k5, hC, hbm⟩ := T.cls
  refine wpAny_Call_Name_kw (ld_glob I hg hm ?_ hdb)
  refine PySem.W.callWith_K (h₀ := X.base) I.ok.mod.kin T.kC (thn (ha.run pos pins s σ H _ I h) fun us s1 ⟨vs, H1, I1, r1, hz, q1⟩ => ⟨I1.kIn, ?_⟩) he hpl
  show wpAny _ _ (call (.ref C) us) _ _ _
  obtain ⟨hp, g, dr, tk, os⟩ := s1
  have hsz : hp.objs.size ≤ hp.objs.size + 1 := Nat.le_succ _
  have hn : H1 (hp.objs.size + 1) = none := I1.hok.fresh hsz
  have hq := q1 (hp.objs.size + 1) hn
  rw [List.append_nil] at hq
  have kk : ∀ b o, hp.get? b = some o → ((hp.push (PySem.W.kdv_tup us)).push (PySem.HandSPX.excO C hp.objs.size)).get? b = some o := fun b o e => Heap.get?_push_of_some _ (Heap.get?_push_of_some _ e)
  have hget : ((hp.push (PySem.W.kdv_tup us)).push (PySem.HandSPX.excO C hp.objs.size)).get? (hp.objs.size + 1) = some (PySem.HandSPX.excO C hp.objs.size) := by heap_get
  have I2 : Inv X pins σ (upd H1 (hp.objs.size + 1) (exo (hp.objs.size + 1) C none)) ⟨(hp.push (PySem.W.kdv_tup us)).push (PySem.HandSPX.excO C hp.objs.size), g, dr, tk, os⟩ :=
    I1.laid (t' := tk) (a := hp.objs.size + 1) (o := exo (hp.objs.size + 1) C none) (h' := (hp.push (PySem.W.kdv_tup us)).push (PySem.HandSPX.excO C hp.objs.size)) kk hsz (exo_ok hget)
  have r2 : Vals (V.ref (hp.objs.size + 1) :: vs) (Value.ref (hp.objs.size + 1) :: us) := .cons rfl r1
  have hl : (Value.ref (hp.objs.size + 1) :: us ++ []).length = ps.length := by
    have e := r2.length
    rw [F1.len _ _ _ _ hq] at e
    rw [List.append_nil]
    exact e.symm
  have hus : us.length ≤ sizeLine := by
    rw [← Paired.length r1, sizeLine_eq]
    omega
  have b2 := hb _ (Value.ref (hp.objs.size + 1) :: us) I2.kIn hl
  rw [List.append_nil] at b2
  refine wpAny_call (PySem.HandSPX.call_own F.excBase_ValueError (fun Y => PySem.HandSPX.refsVE_contains Y bm hbm) (I1.kIn _ _ hC) (PySem.W.looks_findIn I1.kIn iC) (fun self => PySem.W.bind_fn I1.kIn self tI) hus
    (codeAny_mono (F1.run _ X.stack _ _ ⟨Value.ref (hp.objs.size + 1) :: us, []⟩ (Value.ref (hp.objs.size + 1) :: us) _ _ (fun _ _ _ => False) (hr.make C us []) (I2.env0.make C us []) b2 r2 hq) fun r s' hq' => ?_))
  cases r with
  | error er => exact hx pins σ _ _ er s' I2 hq'
  | ok fl =>
    cases fl with
    | ret u =>
      obtain ⟨v, H2, os2, bare2, un2, hok2, rv, ev, d, fs, ea, ed, hd1, q2⟩ := hq'
      subst ev
      obtain ⟨h2, g2, d2, t2, os'⟩ := s'
      obtain ⟨t0, G, J, kG, ge, hoe, na⟩ := mk_end0 (d2 := d2) (t2 := t2) I1 hsz kk un2 hok2 os2 bare2 ea ed hd1
      refine ⟨rv, ⟨hp.objs.size + 1, _, _, ⟨G, g2, d2, t2, os'⟩, _, .ref C, some d, rfl, J, kG, ge, hoe, ⟨rfl, rfl, fun vs hv => ?_⟩, rfl, rfl, na, rfl, bare2, raises_own T.exC T.tyC, q2⟩⟩
      cases hv
      rfl
    | next => exact False.elim hq'
    | brk => exact False.elim hq'
    | cont => exact False.elim hq'
end
section
variable {X : Cx} {W : WX} {e : Expr} {es : List Expr} {pos pos' : Pos} {t : TAD} {k : Nat} {C fI : Addr} {fd : FuncData} {ps : List Str} {c x : Str} {p : Pos} {fns : List Str}
/-- what raise of an own class leaves, by the made exception -/
theorem lft_raise {K : Frag} {σ : L2.St} {H : Hp} {D : Ends} (hC : gaddr K c = some C) (hn : fns.length ≤ 1000) (h : lftS K W (dRaise c fns t) D σ H) : tMkO C (spExc C fns) [] (lftA K W t) σ H fun cls d H' => W cls d σ H' := by
  obtain ⟨σD, G, DD, hR, hS, q, hE⟩ := h
  refine ⟨σD, G, _, _, hR, hS, q, fun vs H1 ds G1 s1 r1 p1 ⟨hl, z⟩ => ?_, hE.ex.at hS⟩
  refine ⟨by rw [← p1.length]; omega, fun a ha => ⟨a, vs ++ [], rfl, by rw [List.append_nil, ← p1.length]; exact hl, upd_same, fun dx hdx hne => ⟨rfl, dx, _, upd_same, by rw [upd_ne hne]; exact upd_same, by rw [← hdx, upd_ne hne], ?_⟩⟩⟩
  rw [List.append_nil]
  have hd1 : H1 dx = none := by rw [← hdx, upd_ne hne]
  have e : upd (del (upd (upd (upd H1 a (exo a C none)) dx (exd dx (fns.reverse.zip vs.reverse))) a (exo a C (some dx))) a) dx (.xd (fns.reverse.zip vs.reverse)) = upd H1 dx (.xd (fns.reverse.zip vs.reverse)) := by
    funext b
    by_cases hb : b = dx
    · subst hb; rw [upd_same, upd_same]
    · rw [upd_ne hb, upd_ne hb]
      by_cases hba : b = a
      · subst hba; rw [del_same, ha]
      · rw [del_ne hba, upd_ne hba, upd_ne hb, upd_ne hba]
  rw [e]
  have s2 := Stp.new (G := G1) (o := .xd (fns.reverse.zip vs.reverse)) hd1
  exact hE.ex ⟨.own c, fns.reverse, ds.reverse⟩ _ _ _ σD _ G1 (s1.trans s2) (r1.new hd1) (hS.mono (s1.trans s2)) ⟨⟨C, hC, rfl⟩, vs.reverse, upd_same, r1.free hd1, by rw [List.length_reverse, List.length_reverse, ← p1.length]; exact hl.symm, (p1.mono s2).reverse⟩ z
theorem ds_raiseN (hc : X.calm = true) (tk : L2N.Takes X W) (hC : gaddr X.K c = some C) (T : OexC X.K C) (iC : PySem.W.findIn X.K (.ref C) "__init__" = some (some (.ref fI))) (tI : PySem.W.typeIn X.K (.ref fI) = some (.type "function"))
    (F1 : FnOk X.prog X.w X.K X.mg X.base CX0 k fI fd ps (spExc C fns)) (hr : Room (k + 1) X.A) (hb : Binds X.K fd ps []) (hg : Gl X x) (hm : X.mg x = some (.ref C)) (hn : fns.length ≤ 1000) (ha : DA X W (e :: es) t)
    (hdb : (x == ("__debug__" : Str)) = false := by decide) (he : starEach (e :: es) X.env = (false, eval e X.env) :: starEach es X.env := by rfl) (hpl : (backTo pos' (starEach es X.env)).any (·.1) = false := by rfl) :
    DS X W (.Raise (some (.Call (.Name x p) (e :: es) [] pos')) none pos) (dRaise c fns t) :=
  PS.imp (L2N.ps_raise hc tk (pmk_oexN (pos := pos') T iC tI F1 hr hb (fun _ _ _ _ _ _ _ z => z.elim) hg hm ha hdb he hpl)) fun D σ H h => lft_raise hC hn h
/-! ### an except suite that raises -/
theorem ds_raiseHN {j : Nat} {cpos : Pos} (hc : L2H.HotC X) (tk : L2.Takes X W) (hC : gaddr X.K c = some C) (T : OexC X.K C) (iC : PySem.W.findIn X.K (.ref C) "__init__" = some (some (.ref fI))) (tI : PySem.W.typeIn X.K (.ref fI) = some (.type "function"))
    (F1 : L2H.FnH X.prog X.w X.K X.mg X.base CX0 k fI fd ps (spExc C fns)) (hr : L2H.RoomH (k + 1) X.A) (hb : Binds X.K fd ps []) (hg : Gl X x) (hm : X.mg x = some (.ref C)) (hn : fns.length ≤ 1000) (ha : DA X W (e :: es) t)
    (hdb : (x == ("__debug__" : Str)) = false := by decide) (he : starEach (e :: es) X.env = (false, eval e X.env) :: starEach es X.env := by rfl) (hpl : (backTo pos' (starEach es X.env)).any (·.1) = false := by rfl) :
    DS X W (.Raise (some (.Call (.Name x p) (e :: es) [] pos')) (some (.Constant .none j cpos)) pos) (dRaise c fns t) :=
  PS.imp (L2H.ps_raiseHN hc tk (L2H.pmk5_oexH (pos := pos') T iC tI F1 hr hc hb (fun _ _ _ _ _ _ _ z => z.elim) hg hm ha hdb he hpl)) fun D σ H h => lft_raise hC hn h
def dTryX (tbl : List (Str × Bool)) (tb : TSD) (ts : Str → Addr → Option Addr → TSD) : TSD := fun D σ G =>
  tb { D with ex := fun x σ' G' => ∃ n b, x.cls = .own n ∧ (n, b) ∈ tbl ∧ (b = true → ∀ a d, (d = none → x.ns = []) → ts n a d D σ' G') ∧ (b = false → D.ex x σ' G') } σ G
end
section
variable {X : Cx} {W : WX} {x nm : Str} {C : Addr} {i : Nat} {body suite : List Stmt} {b₀ : Stmt} {np pos pos' : Pos} {tb : TSD} {ts : Str → Addr → Option Addr → TSD} {tbl : List (Str × Bool)}
theorem ds_tryX (hg : Gl X x) (hm : X.mg x = some (.ref C)) (tk : L2.Takes X W) (hT : ExTab X.K C tbl) (hpa : ∀ hd : Option Value, PassesOwnAt (model X.prog X.w) (X.A.mark hd) X.A X.env X.xe)
    (hb : ∀ (W' : WX) (pn : List (Addr × Obj)) (xe : Value → Shared → Prop), L2N.Takes (X.tr pn xe) W' → PassesOwn (model X.prog X.w) X.A X.env xe → DSs (X.tr pn xe) W' body tb)
    (hsu : ∀ (n : Str) (C' : Addr), gaddr X.K n = some C' → ∀ (a : Addr) (oe : Obj) (d : Option Addr) (pn : List (Addr × Obj)), Zc (.ref C') d oe → (∃ vs, oe.data = .fields vs) → L2.Takes (L2H.suiteX X a ((a, oe) :: pn)) W → L2H.HotC (L2H.suiteX X a ((a, oe) :: pn)) → DSs (L2H.suiteX X a ((a, oe) :: pn)) W (b₀ :: suite) (ts n a d))
    (hdb : (x == ("__debug__" : Str)) = false := by decide) (hs : X.stack = X.env :: X.outer := by rfl) (hf : X.env.frame = some X.env.locals := by rfl) :
    DS X W (.Try body [.ExceptHandler (some (.Name x np)) none (b₀ :: suite) pos'] [] [] pos) (dTryX tbl tb ts) :=
  PS.imp (L2H.ps_try_onlyX (tb := fun W' => lftS X.K W' tb) (ts := fun a cls d D σ H => ∃ n C, gaddr X.K n = some C ∧ cls = .ref C ∧ lftS X.K W (ts n a d) D σ H) (Wout := W) hs hf ⟨hg, hdb, .inl hm⟩ hpa tk (fun W' pn xe tk' _ po => hb W' pn xe tk' po) fun a oe cls d pn hz hv tkS hot => ⟨fun pins s σ H D I ⟨n, C', hC, e, h⟩ => (hsu n C' hC a oe d pn (by rw [← e]; exact hz.zc) hv tkS hot).run pins s σ H D I h⟩)
    fun D σ H ⟨σD, G, DD, hR, hS, q, he⟩ => ⟨σD, G, _, hR, hS, q, ⟨he.nx, he.rt, he.bk, he.ct, fun y cls d σ' σD' H' G' s r p xr ⟨n, b, en, hm', h1, h2⟩ => by
      have xr0 := xr
      obtain ⟨hc, _⟩ := xr
      rw [en] at hc
      obtain ⟨C', hC, rfl⟩ := hc
      refine ⟨b, hT _ hm' C' hC, fun hb' a ha => ⟨n, C', hC, rfl, σD', G', _, r, p, h1 hb' a d (fun e => by subst e; exact xr0.2.1), ⟨he.nx.mono s, he.rt.mono s, he.bk.mono s, he.ct.mono s, he.ex.mono s⟩⟩, fun hb' => he.ex _ _ _ _ _ _ _ s r p xr0 (h2 hb')⟩⟩⟩
end
end DL

namespace DL
open PySem PySem.Spec PyProof.Rows L2
open PySem.W (Frag)
/-! ### quiet calls of values -/
section
variable {X : Cx} {W : WX} {fe e o : Expr} {es : List Expr} {tf to : TED} {t : TAD} {pos apos : Pos}
theorem run_anyQ {pins : List (Addr × Obj)} {σ : L2.St} {H : Hp} {s : Shared} {Q : VK} {us : List Value} {vs : List V} {args : Args} {k : Nat} {f : Addr} {fd : FuncData} {ps : List Str} {sp : SpD} (F : FnG X.prog X.w X.K X.mg X.base k f fd ps sp) (hg : X.A.guards = some []) (hr : Room k X.A)
    (I : Inv X pins σ H s) (hb : BindsTo s fd args (ps.zip us)) (r : Vals vs us) (h : lsp X.K sp vs H Q (fun _ _ _ => False)) : codeAny (model X.prog X.w) X.A (.call (.ref f) args) (fun r s' => match r with | .ok (.ret u) => EP X pins σ Q u s' | .ok _ => False | .error e => X.xe e s') s := by
  refine codeAny_mono (F.run X.A X.stack s H args us vs Q (fun _ _ _ => False) hg hr I.env0 hb r h) fun r s' hq => ?_
  cases r with
  | error e =>
    obtain ⟨_, _, _, _, _, _, _, _, _, _, _, _, z⟩ := hq
    exact z.elim
  | ok fl =>
    cases fl with
    | ret u => exact I.after hq
    | next => exact False.elim hq
    | brk => exact False.elim hq
    | cont => exact False.elim hq
def dCallVQ (tbo tbf : List (Str × SpD)) (tf : TED) (t : TAD) : TED := fun σ G Q E => tf σ G (fun x G1 => (∃ c sp ns ds, InsD G1 x c ns ds ∧ (c, sp) ∈ tbo ∧ t σ G1 (fun as G2 => (∃ ns ds, InsD G2 x c ns ds) ∧ sp (x :: as) G2 Q EF) E) ∨ ∃ c sp, x = .gv c ∧ (c, sp) ∈ tbf ∧ t σ G1 (fun as G2 => sp as G2 Q EF) E) E
theorem de_callVQ {k : Nat} {tbo tbf : List (Str × SpD)} (ho : CTab X k tbo) (hf : FTab X k tbf) (hgd : X.A.guards = some []) (hr : Room k X.A) (hfe : DE X W fe tf) (ha : DA X W (e :: es) t)
    (ht : eval (.Call fe (e :: es) [] pos) X.env = (do callWith pos (← eval fe X.env) [] (backTo pos (starEach (e :: es) X.env)) (backToKw pos (keywordEach [] X.env))) := by rfl)
    (he : starEach (e :: es) X.env = (false, eval e X.env) :: starEach es X.env := by rfl) (hpl : (backTo pos (starEach es X.env)).any (·.1) = false := by rfl) : DE X W (.Call fe (e :: es) [] pos) (dCallVQ tbo tbf tf t) := by
  have ha' : PA X (e :: es) (lftA X.K W t) := ha
  have hf' : PE X fe (lft X.K W tf) := hfe
  refine ⟨fun pins s σ H Q I ⟨σD, G, QD, E, hR, hS, q, hq, hE⟩ => ?_⟩
  refine Call_ (thn (hf'.run pins s σ H (fun v H1 => ∃ d G1, Stp H G H1 G1 ∧ RelH X.K H1 G1 ∧ Rp X.K H1 G1 d v ∧ ((∃ c sp ns ds, InsD G1 d c ns ds ∧ (c, sp) ∈ tbo ∧ t σD G1 (fun as G2 => (∃ ns ds, InsD G2 d c ns ds) ∧ sp (d :: as) G2 QD EF) E) ∨ ∃ c sp, d = .gv c ∧ (c, sp) ∈ tbf ∧ t σD G1 (fun as G2 => sp as G2 QD EF) E)) I ⟨σD, G, _, E, hR, hS, q, fun v H1 d G1 s1 r1 p1 z => ⟨d, G1, s1, r1, p1, z⟩, hE⟩) fun u s1 ⟨x, H1, I1, rx, d, G1, s1', r1, p1, z⟩ => ?_) ht
  rcases z with ⟨c, sp, ns0, ds0, hi0, hm, q1⟩ | ⟨c, sp, rfl, hm, q1⟩
  · obtain ⟨C, g, fd, ps, hC, co, F, hb⟩ := ho _ hm
    obtain ⟨a, _, _, _, ex, _, _, _, _⟩ := hi0.of r1 p1
    subst ex
    obtain rfl : u = Value.ref a := rx
    refine StX.callO_with (thn (ha'.run pos pins s1 σ H1 (fun vs H2 => (∃ dx fs, H2 a = some (.ins C dx fs)) ∧ lsp X.K sp (.ref a :: vs) H2 Q (fun _ _ _ => False)) I1 ⟨σD, G1, _, E, r1, hS.mono s1', q1, fun vs H2 as G2 s2 r2 p2 ⟨⟨ns, ds, hi⟩, q2⟩ => ?_, hE.mono s1'⟩) fun us s2 ⟨vs, H2, I2, r, ⟨dx2, fs2, hi2⟩, q2⟩ => ?_) he hpl
    · have p3 := p1.mono s2
      obtain ⟨b, C', dx, xs, ex, h1, h2, h3, h4⟩ := hi.of r2 p3
      cases ex
      have hCC : C' = C := by rw [hC] at h1; exact (Option.some.inj h1).symm
      subst hCC
      exact ⟨⟨_, _, h2⟩, d :: as, G2, QD, EF, r2, .cons p3 p2, q2, hq.mono (s1'.trans s2), fun _ _ _ _ _ _ _ _ z => z⟩
    · obtain ⟨ox, od, J, hd⟩ := StX.insC_at I2 (Or.inr ⟨_, _, hi2⟩)
      refine ⟨⟨C, ox, od, J, hd⟩, ?_⟩
      have rv : Vals (V.ref a :: vs) (Value.ref a :: us) := .cons (vref a) r
      have hl : (Value.ref a :: us).length = ps.length := by rw [← rv.length]; exact F.llen q2
      have b := hb s2 (Value.ref a :: us) I2.kIn (by rw [List.append_nil]; exact hl)
      rw [List.append_nil] at b
      refine wpAny_call (PySem.W.kco_code I2.kIn J hd co.at_ co.fn co.fi (codeAny_mono (run_anyQ F hgd hr I2 b rv q2) fun r s' hq' => ?_))
      cases r with
      | error e => exact hq'
      | ok fl =>
        cases fl with
        | ret u => exact hq'
        | next => exact False.elim hq'
        | brk => exact False.elim hq'
        | cont => exact False.elim hq'
  · obtain ⟨f, fd, ps, hC, hk, F, hb⟩ := hf _ hm
    cases p1 with
    | gv e1 =>
      rename_i a
      have hCC : a = f := by rw [show gaddr X.K c = some f from hC] at e1; exact (Option.some.inj e1).symm
      subst hCC
      obtain rfl : u = Value.ref a := rx
      refine PySem.W.callWith_K (first := []) (h₀ := X.base) I.ok.mod.kin hk (thn (ha'.run pos pins s1 σ H1 (fun vs H2 => lsp X.K sp vs H2 Q (fun _ _ _ => False)) I1 ⟨σD, G1, _, E, r1, hS.mono s1', q1, fun vs H2 as G2 s2 r2 p2 q2 => ?_, hE.mono s1'⟩) fun us s2 ⟨vs, H2, I2, r, q2⟩ => ⟨I2.kIn, ?_⟩) he hpl
      · exact ⟨as, G2, QD, EF, r2, p2, q2, hq.mono (s1'.trans s2), fun _ _ _ _ _ _ _ _ z => z⟩
      · exact run_quiet F hgd hr hb I2 r q2
theorem st_callVQ {σ : SD} {G : HH} {Q : QD} {E : ED} {tbo tbf : List (Str × SpD)} (h : tf σ G (fun x G1 => (∃ c sp ns ds, InsD G1 x c ns ds ∧ (c, sp) ∈ tbo ∧ t σ G1 (fun as G2 => (∃ ns ds, InsD G2 x c ns ds) ∧ sp (x :: as) G2 Q EF) E) ∨ ∃ c sp, x = .gv c ∧ (c, sp) ∈ tbf ∧ t σ G1 (fun as G2 => sp as G2 Q EF) E) E) : dCallVQ tbo tbf tf t σ G Q E := h
end
theorem st_callVqQ {c : Str} {ns : List Str} {ds : List D} {G : HH} {Q : QD} {E : ED} {σ : SD} {t : TAD} {tbo : List (Str × SpD)} {P : Prop} (sp : SpD) (hm : (c, sp) ∈ tbo) (h : t σ G (fun as G2 => (∃ ns2 ds2, InsD G2 (.obj c ns ds) c ns2 ds2) ∧ sp (.obj c ns ds :: as) G2 Q EF) E) : (∃ c' sp ns' ds', InsD G (.obj c ns ds) c' ns' ds' ∧ (c', sp) ∈ tbo ∧ t σ G (fun as G2 => (∃ ns2 ds2, InsD G2 (.obj c ns ds) c' ns2 ds2) ∧ sp (.obj c ns ds :: as) G2 Q EF) E) ∨ P := .inl ⟨c, sp, ns, ds, .obj c ns ds, hm, h⟩
/-! ### __init__ of errors while another one is handled -/
section
variable {P : Program} {w : World} {K : Frag} {mg : Str → Option Value} {base : Heap}
theorem fn_exc1H {C : Addr} {qual p f : Str} {st : Stmt} {fI : Addr} {fd : FuncData} (T : OexC K C) (no : PySem.W.findIn K (.ref C) f = some none) (F : Fun K "__init__" qual st fI fd) (S : FnScope ["self", p] ["self", p] (defScope st))
    (hd : (p == ("__debug__" : Str)) = false) (hcd : (p == ("__classdict__" : Str)) = false) (hl : (defScope st).names.lookup p = some .local) (hs : (defScope st).names.lookup ("self" : Str) = some .local)
    (hb : ∃ q1 q2 q3 q4, defBody st = [.Assign [.Attribute (.Name "self" q1) f q2] (.Name p q3) q4]) :
    L2H.FnH P w K mg base CX0 1 fI fd ["self", p] (spExc C [f]) := by
  obtain ⟨q1, q2, q3, q4, hb⟩ := hb
  obtain ⟨oc, od, kV, doc, pm, an, cdv, ct, osl, rfl, lk, hcode⟩ := F.ex
  refine L2H.fn_ofH (k := 0) lk hcode S ?_ fun A outer s H vs Q E p0 hot hr hsp => ?_
  · rintro vs H Q E ⟨a, ws, rfl, h1, _⟩
    simpa using h1
  obtain ⟨a, ws, rfl, h1, h2, hq⟩ := hsp
  obtain ⟨v, rfl⟩ : ∃ v, ws = [v] := by
    cases ws with
    | nil => simp at h1
    | cons v r => cases r with
      | nil => exact ⟨v, rfl⟩
      | cons _ _ => simp at h1
  refine ⟨_, by rw [hb]; exact pss_one (ps_ost (pe_var (i := 0) rfl (Or.inl hs)) (pe_var (i := 1) rfl (Or.inl hl) hd hcd) (by rfl)), ?_⟩
  refine ⟨v, rfl, .ref a, rfl, a, C, rfl, T, no, .inl ⟨h2, fun dx hdx hne => hq dx hdx hne⟩⟩
theorem fn_exc2H {C : Addr} {qual p q f g : Str} {st : Stmt} {fI : Addr} {fd : FuncData} (T : OexC K C) (no : PySem.W.findIn K (.ref C) f = some none) (no2 : PySem.W.findIn K (.ref C) g = some none) (F : Fun K "__init__" qual st fI fd) (S : FnScope ["self", p, q] ["self", p, q] (defScope st))
    (hd : (p == ("__debug__" : Str)) = false) (hcd : (p == ("__classdict__" : Str)) = false) (hl : (defScope st).names.lookup p = some .local) (hs : (defScope st).names.lookup ("self" : Str) = some .local)
    (hd2 : (q == ("__debug__" : Str)) = false) (hcd2 : (q == ("__classdict__" : Str)) = false) (hl2 : (defScope st).names.lookup q = some .local)
    (hb : ∃ q1 q2 q3 q4 r1 r2 r3 r4, defBody st = [.Assign [.Attribute (.Name "self" q1) f q2] (.Name p q3) q4, .Assign [.Attribute (.Name "self" r1) g r2] (.Name q r3) r4]) :
    L2H.FnH P w K mg base CX0 1 fI fd ["self", p, q] (spExc C [f, g]) := by
  obtain ⟨q1, q2, q3, q4, r1, r2, r3, r4, hb⟩ := hb
  obtain ⟨oc, od, kV, doc, pm, an, cdv, ct, osl, rfl, lk, hcode⟩ := F.ex
  refine L2H.fn_ofH (k := 0) lk hcode S ?_ fun A outer s H vs Q E p0 hot hr hsp => ?_
  · rintro vs H Q E ⟨a, ws, rfl, h1, _⟩
    simpa using h1
  obtain ⟨a, ws, rfl, h1, h2, hq⟩ := hsp
  obtain ⟨v, v', rfl⟩ : ∃ v v', ws = [v, v'] := by
    cases ws with
    | nil => simp at h1
    | cons v r => cases r with
      | nil => simp at h1
      | cons v' r => cases r with
        | nil => exact ⟨v, v', rfl⟩
        | cons _ _ => simp at h1
  refine ⟨_, by rw [hb]; exact pss_cons (ps_ost (pe_var (i := 0) rfl (Or.inl hs)) (pe_var (i := 1) rfl (Or.inl hl) hd hcd) (by rfl)) (pss_one (ps_ost (pe_var (i := 0) rfl (Or.inl hs)) (pe_var (i := 2) rfl (Or.inl hl2) hd2 hcd2) (by rfl))), ?_⟩
  refine ⟨v, rfl, .ref a, rfl, a, C, rfl, T, no, .inl ⟨h2, fun dx hdx hne => ?_⟩⟩
  refine ⟨v', rfl, .ref a, rfl, a, C, rfl, T, no2, .inr ⟨dx, [(f, v)], upd_same, by rw [upd_ne hne]; exact upd_same, by simp, ?_⟩⟩
  have e : upd (upd (upd H dx (exd dx [(f, v)])) a (exo a C (some dx))) dx (exd dx ((g, v') :: [(f, v)])) = upd (upd H dx (exd dx ([f, g].reverse.zip [v, v'].reverse))) a (exo a C (some dx)) := by
    funext b
    by_cases hb : b = dx
    · subst hb; rw [upd_same, upd_ne hne, upd_same]; rfl
    · by_cases ha : b = a
      · subst ha; rw [upd_ne hb, upd_same, upd_same]
      · rw [upd_ne hb, upd_ne ha, upd_ne hb, upd_ne ha, upd_ne hb]
  show Q .non _
  rw [e]
  exact hq dx hdx hne
end
theorem st_tryX {tbl : List (Str × Bool)} {tb : TSD} {ts : Str → Addr → Option Addr → TSD} {nx bk ct : SD → HH → Prop} {rt : QD} {ex : XD → SD → HH → Prop} {σ : SD} {G : HH}
    (h : tb ⟨nx, rt, bk, ct, fun x σ' G' => ∃ n b, x.cls = .own n ∧ (n, b) ∈ tbl ∧ (b = true → ∀ a d, (d = none → x.ns = []) → ts n a d ⟨nx, rt, bk, ct, ex⟩ σ' G') ∧ (b = false → ex x σ' G')⟩ σ G) : dTryX tbl tb ts ⟨nx, rt, bk, ct, ex⟩ σ G := h
end DL

namespace DL
open PySem PySem.Spec PyProof.Rows L2
open PySem.W (Frag)
/-! ### powers of great numbers -/
section
variable {X : Cx}
def CPowB (i j : Int) : Prop := 0 ≤ j ∧ (Builtin.Int.intBits i : Int) * j ≤ 2 ^ 27
theorem op_powB : OpR X (binaryOp .Pow) (rI CPowB fun i j => .int (i ^ j.toNat)) := opI fun _ _ _ _ _ _ _ hc q => pow_int hc.1 hc.2 q
theorem oPowB : OpD X (binaryOp .Pow) (oI CPowB fun i j => .int (i ^ j.toNat)) := ⟨_, op_powB, sim_I fun i j _ _ => .int _⟩
end
abbrev aPowB := oI CPowB fun i j => .int (i ^ j.toNat)
theorem st_powB {x y : Int} {G : HH} {Q : QD} (h0 : 0 ≤ y) (h1 : (Builtin.Int.intBits x : Int) * y ≤ 2 ^ 27) (h : Q (.int (x ^ y.toNat)) G) : aPowB (.int x) (.int y) G Q := ⟨x, y, rfl, rfl, ⟨h0, h1⟩, h⟩
end DL

namespace DL
open PySem PySem.Spec PyProof.Rows L2
open PySem.W (Frag)
/-! ### == and != by an own __eq__ -/
section
variable {prog : Program} {w : World} {A : Around} {E : Value → Shared → Prop} {s : Shared} {K : Frag} {x C L f : Addr} {h₀ : Heap} {m : Str → Option Value} {ox : Obj} {od : Option Obj} {name : Str} {b tb : Value}
open PySem.W (InstAt findIn isFn mroIn notFirst looks_findIn looks_mroIn looks_subIn subIn Looks)
theorem ifBound_bi {M : Model} {args : List Value} {T : String} {name' : Str} {id : String} {Q : Option Value → Shared → Prop} (X : K.In s.heap) (I : InstAt s.heap x ox C od) (hs : findIn K (.ref C) name = some (some (.builtin id))) (S : Slot T name' id)
    (h : wpAny M A (call (.builtin id) (.ref x :: args)) (fun v => Q (some v)) E s) : wpAny M A (callSpecialIfBound? (.ref x) name args) Q E s := by
  simp only [callSpecialIfBound?, bindSpecialIfBound?]
  refine wpAny_holding (wpAny_bind (wpAny_bind (wpAny_bind (I.type.here ((looks_findIn X hs).here ?_)))))
  refine wpAny_bind (wpAny_askSetting (wpAny_ite ?_))
  have fin : wpAny M A (call (.builtin id) ([.ref x] ++ args) >>= fun v => pure (some v)) Q E s := wpAny_bind (wpAny_mono h (fun v s' h' => wpAny_pure h') fun _ _ h' => h')
  split
  · rw [S.bind]
    exact wpAny_bind (wpAny_pure (wpAny_pure (by exact fin)))
  · rw [S.bind]
    exact wpAny_tryCatch (wpAny_bind (wpAny_pure (wpAny_pure (by exact fin))))
theorem check_obj {M : Model} {rest : List Value} {Q : Unit → Shared → Prop} (X : K.In s.heap) (I : InstAt s.heap x ox C od) (hm : mroIn K C (.type "object") = some true)
    (ha : argsOk "object.__ne__" ⟨.ref x :: rest, []⟩) (hq : Q () s) : wpAny M A (checkBuiltinCall "object.__ne__" ⟨.ref x :: rest, []⟩) Q E s := by
  have L0 := I.type (M := M)
  have L1 := looks_mroIn (M := M) X hm
  simp only [checkBuiltinCall, F.cmpKind_ne, F.cmpSplit_ne]
  refine wpAny_bind ?_
  unfold isInstance
  refine wpAny_bind (L0.here (L1.here ?_))
  simp only [Bool.not_true, Bool.false_eq_true, if_false]
  cases hsig : Manifest.signature? "object.__ne__" with
  | none => exact wpAny_pure hq
  | some sig =>
    simp only [argsOk, hsig] at ha
    have h2 : Bind.checkArgs "object.__ne__" sig ⟨.ref x :: rest, []⟩ = pure () := ha
    show wpAny M A (Bind.checkArgs "object.__ne__" sig ⟨.ref x :: rest, []⟩) Q E _
    rw [h2]; exact wpAny_pure hq
theorem ne_K {Q : Value → Shared → Prop} (hu : A.units + 1 < cLine) (F0 : Fr h₀ L s.heap m) (X₀ : K.In h₀) (I : InstAt s.heap x ox C od) (hb : Looks (model prog w) s.heap (typeOf b) tb) (hn : notFirst K C tb = true)
    (hn2 : findIn K (.ref C) "__ne__" = some (some (.builtin "object.__ne__"))) (hm : mroIn K C (.type "object") = some true)
    (hs : findIn K (.ref C) "__eq__" = some (some (.ref f))) (hf : isFn K (.ref f) = true)
    (h : wpAny (model prog w) A.in1 (call (.ref f) [.ref x, b]) (fun v s' => ∃ r, v = .bool r ∧ Q (.bool (!r)) s') E s) : wpAny (model prog w) A (richCompare .NotEq (.ref x) b) Q E s := by
  have X := X₀.keeps F0.keep
  have one : wpAny (model prog w) A (tryCompare (.ref x) "__ne__" b) (fun r s' => ∃ v, r = some v ∧ Q v s') E s := by
    unfold tryCompare
    refine wpAny_bind (ifBound_bi X I hn2 F.cmp_object.ne (wpAny_call (codeAny_call_builtin F.cmp_object.ne.plain F.cmpEntry_ne (check_obj X I hm (F.cmpArgs_ne _ _) ?_))))
    unfold Builtin.«object.__ne__»
    repeat (first | with_reducible refine wpAny_cRoomFor (A := A.in1) hu ?_ | (with_reducible refine PySem.W.ifBound_K X I hs hf (wpAny_mono h (fun v s' hv => ?_) (fun _ _ e => ?_))) | wp_step)
    · obtain ⟨r, rfl, hq⟩ := hv
      repeat wp_step
      exact ⟨_, rfl, hq⟩
    · exact e
  unfold richCompare
  simp only [oneThing_ref]
  refine wpAny_holding (wpAny_bind (wpAny_cRoomFor (by omega) ?_))
  refine wpAny_bind (I.type.here (wpAny_bind (hb.here ?_)))
  split
  · rename_i q
    have e : subIn K tb (.ref C) = some false := by
      rcases Bool.or_eq_true_iff.mp hn with e | e
      · rw [beq_iff_eq.mp e] at q; simp at q
      · exact beq_iff_eq.mp e
    refine wpAny_bind ((looks_subIn X e).here ?_)
    simp only [Bool.false_eq_true, if_false]
    refine wpAny_bind (wpAny_mono one (fun r s' z => ?_) fun _ _ e => e)
    obtain ⟨v, rfl, hq⟩ := z
    exact wpAny_pure hq
  · refine wpAny_bind (wpAny_pure ?_)
    simp only [Bool.false_eq_true, if_false]
    refine wpAny_bind (wpAny_mono one (fun r s' z => ?_) fun _ _ e => e)
    obtain ⟨v, rfl, hq⟩ := z
    exact wpAny_pure hq
end
section
variable {X : Cx} {pins : List (Addr × Obj)} {σ : L2.St} {H : Hp} {s : Shared} {W : WX}
theorem looks_ty {x : V} {u t : Value} (I : Inv X pins σ H s) (rx : RelV x u) (ty : TyX X.K H x t) : PySem.W.Looks (model X.prog X.w) s.heap (typeOf u) t := by
  obtain ⟨P, k, hP, _⟩ := kit_of I rx ty
  exact k.ty _ _ I.kIn hP
/-- what the right side of an own == may be: of some built-in kinds, or of some own classes -/
def RhsD (G : HH) (y : D) (bi : List String) (ow : List Str) : Prop := (∃ k, TyD G y (.bi k) ∧ k ∈ bi) ∨ ∃ c' ns' ds', InsD G y c' ns' ds' ∧ c' ∈ ow
def rEqO (neg : Bool) (bi : List String) (ow : List Str) (c : Str) (sp : SpD) : D → D → HH → QD → Prop := fun x y G Q => ∃ ns ds, InsD G x c ns ds ∧ RhsD G y bi ow ∧ sp [x, y] G (fun v G1 => ∃ b, v = .bl b ∧ Q (.bl (if neg then !b else b)) G1) (fun _ _ => False)
/-- facts of the class: what stands on the right does not come first -/
structure EqC (K : Frag) (C : Addr) (bi : List String) (ow : List Str) : Prop where
  bi : ∀ T ∈ bi, PySem.W.notFirst K C (.type T) = true
  ow : ∀ c ∈ ow, ∀ C', gaddr K c = some C' → PySem.W.notFirst K C (.ref C') = true
structure NeC (K : Frag) (C : Addr) : Prop where
  ne : PySem.W.findIn K (.ref C) "__ne__" = some (some (.builtin "object.__ne__"))
  mro : PySem.W.mroIn K C (.type "object") = some true
theorem rhs_of {C : Addr} {bi : List String} {ow : List Str} {G : HH} {y : D} {vy : V} (e : EqC X.K C bi ow) (hR : RelH X.K H G) (h : RhsD G y bi ow) (p : Rp X.K H G y vy) :
    ∃ t, (∀ {pins : List (Addr × Obj)} {σ : L2.St} {s : Shared} {u : Value}, Inv X pins σ H s → RelV vy u → PySem.W.Looks (model X.prog X.w) s.heap (typeOf u) t) ∧ PySem.W.notFirst X.K C t = true := by
  rcases h with ⟨k, ht, hm⟩ | ⟨c', ns', ds', hi, hm⟩
  · obtain ⟨t, h1, h2⟩ := ht.of hR p
    obtain rfl : t = .type k := h2
    exact ⟨_, fun I r => looks_ty I r h1, e.bi k hm⟩
  · obtain ⟨a, C', dx, xs, e1, h1, h2, h3, h4⟩ := hi.of hR p
    subst e1
    refine ⟨.ref C', fun I r => ?_, e.ow c' hm C' h1⟩
    rename_i u
    obtain rfl : u = Value.ref a := r
    obtain ⟨ox, od, J, _⟩ := inst_of I h2
    exact J.type
variable {k : Nat} {f C : Addr} {fd : FuncData} {ps : List Str} {sp : SpD} {bi : List String} {ow : List Str}
theorem oEqO {c : Str} (hC : gaddr X.K c = some C) (hm : Meth X.K C "__eq__" f) (he : EqC X.K C bi ow) (F : FnG X.prog X.w X.K X.mg X.base k f fd ps sp) (hg : X.A.guards = some []) (hr : Room k X.A) (hb : Binds X.K fd ps []) : OpD X (compareOp .Eq) (rEqO false bi ow c sp) :=
  ⟨fun x y H Q => ∃ a dx fs t, x = .ref a ∧ H a = some (.ins C dx fs) ∧ (∀ {pins : List (Addr × Obj)} {σ : L2.St} {s : Shared} {u : Value}, Inv X pins σ H s → RelV y u → PySem.W.Looks (model X.prog X.w) s.heap (typeOf u) t) ∧ PySem.W.notFirst X.K C t = true ∧ lsp X.K sp [x, y] H (fun v H1 => ∃ b, v = .bl b ∧ Q (.bl b) H1) E0, fun pins s σ H x y v u Q I rx ry ⟨a, dx, fs, t, ex, ha, ht, hn, q⟩ => by
    subst ex
    obtain rfl : v = Value.ref a := rx
    obtain ⟨m, fr⟩ := fr_of I
    obtain ⟨ox, od, J, _⟩ := inst_of I ha
    show wpAny _ _ (richCompare .Eq _ _) _ _ _
    refine PySem.W.cmp_K (op := .Eq) hr.units0 fr I.ok.mod.kin J (ht I ry) hn hm.at_ hm.fn (wpAny_mono (run_at F hg hr I.env0 hb I (us := [.ref a, u]) (.cons (vref a) (.cons ry .nil)) q) (fun r s' hr' => ?_) fun _ _ z => z)
    obtain ⟨w, H', J', rw', b, ew, q'⟩ := hr'
    subst ew
    obtain rfl : r = Value.bool b := rw'
    exact ⟨.bl b, H', J', rfl, q'⟩, fun x y H Q dx dy G QD hR px py ⟨ns, ds, hi, hy, q⟩ hq => by
    obtain ⟨a, C', dx', xs, e1, h1, h2, h3, h4⟩ := hi.of hR px
    rw [hC] at h1; cases h1
    obtain ⟨t, ht, hn⟩ := rhs_of he hR hy py
    subst e1
    refine ⟨a, dx', _, t, rfl, h2, ht, hn, lsp0 hR (.cons px (.cons py .nil)) q fun v H' d G' s' r' p' ⟨b, e, z⟩ => ?_⟩
    subst e; cases p'
    exact ⟨b, rfl, hq _ _ _ _ s' r' (.bl _) z⟩⟩
theorem oNeO {c : Str} (hC : gaddr X.K c = some C) (hm : Meth X.K C "__eq__" f) (he : EqC X.K C bi ow) (hn2 : NeC X.K C) (F : FnG X.prog X.w X.K X.mg X.base k f fd ps sp) (hg : X.A.guards = some []) (hr : Room (k + 1) X.A) (hb : Binds X.K fd ps []) : OpD X (compareOp .NotEq) (rEqO true bi ow c sp) :=
  ⟨fun x y H Q => ∃ a dx fs t, x = .ref a ∧ H a = some (.ins C dx fs) ∧ (∀ {pins : List (Addr × Obj)} {σ : L2.St} {s : Shared} {u : Value}, Inv X pins σ H s → RelV y u → PySem.W.Looks (model X.prog X.w) s.heap (typeOf u) t) ∧ PySem.W.notFirst X.K C t = true ∧ lsp X.K sp [x, y] H (fun v H1 => ∃ b, v = .bl b ∧ Q (.bl (!b)) H1) E0, fun pins s σ H x y v u Q I rx ry ⟨a, dx, fs, t, ex, ha, ht, hn, q⟩ => by
    subst ex
    obtain rfl : v = Value.ref a := rx
    obtain ⟨m, fr⟩ := fr_of I
    obtain ⟨ox, od, J, _⟩ := inst_of I ha
    show wpAny _ _ (richCompare .NotEq _ _) _ _ _
    have hu : X.A.units + 1 < cLine := by have := hr.in1.un; have := hr.un; simp only [Around.in1] at *; omega
    refine ne_K hu fr I.ok.mod.kin J (ht I ry) hn hn2.ne hn2.mro hm.at_ hm.fn (wpAny_mono (run_at F (guards_in1 hg) hr.in1 I.env0.in1 hb I (us := [.ref a, u]) (.cons (vref a) (.cons ry .nil)) q) (fun r s' hr' => ?_) fun _ _ z => z)
    obtain ⟨w, H', J', rw', b, ew, q'⟩ := hr'
    subst ew
    obtain rfl : r = Value.bool b := rw'
    exact ⟨b, rfl, .bl (!b), H', J', rfl, q'⟩, fun x y H Q dx dy G QD hR px py ⟨ns, ds, hi, hy, q⟩ hq => by
    obtain ⟨a, C', dx', xs, e1, h1, h2, h3, h4⟩ := hi.of hR px
    rw [hC] at h1; cases h1
    obtain ⟨t, ht, hn⟩ := rhs_of he hR hy py
    subst e1
    refine ⟨a, dx', _, t, rfl, h2, ht, hn, lsp0 hR (.cons px (.cons py .nil)) q fun v H' d G' s' r' p' ⟨b, e, z⟩ => ?_⟩
    subst e; cases p'
    exact ⟨b, rfl, hq _ _ _ _ s' r' (.bl _) z⟩⟩
end
section
variable {G : HH} {Q : QD} {c c' : Str} {ns ns' : List Str} {ds ds' : List D} {bi : List String} {ow : List Str} {sp : SpD} {y : D} {neg : Bool}
theorem st_eqO (hy : RhsD G y bi ow) (h : sp [.obj c ns ds, y] G (fun v G1 => ∃ b, v = .bl b ∧ Q (.bl (if neg then !b else b)) G1) (fun _ _ => False)) : rEqO neg bi ow c sp (.obj c ns ds) y G Q := ⟨ns, ds, .obj c ns ds, hy, h⟩
theorem rhs_obj (hm : c' ∈ ow) : RhsD G (.obj c' ns' ds') bi ow := .inr ⟨c', ns', ds', .obj c' ns' ds', hm⟩
end
end DL

namespace DL
open PySem PySem.Spec PyProof.Rows L2
open PySem.W (Frag)
/-! ### several except clauses, with names or without -/
structure Cl where
  c : Value
  i : Option Nat
  ts : Addr → Value → Option Addr → TS
def suiteE (i : Option Nat) (D : Ends) : Ends := match i with
  | none => D
  | some i => { nx := fun σ' H' => D.nx (σ'.set i none) H', rt := D.rt, bk := fun σ' H' => D.bk (σ'.set i none) H', ct := fun σ' H' => D.ct (σ'.set i none) H' }
def suiteS (i : Option Nat) (a : Addr) (σ : L2.St) : L2.St := match i with
  | none => σ
  | some i => σ.set i (some (.ref a))
def wMix (K : Frag) (Wout : WX) (D : Ends) : List Cl → WX
  | [] => Wout
  | k :: r => fun cls d σ H => ∃ b, PySem.W.exmOne K cls k.c = some b ∧ (b = true → ∀ a, H a = none → k.ts a cls d (suiteE k.i D) (suiteS k.i a σ) H) ∧ (b = false → wMix K Wout D r cls d σ H)
inductive ClsOk (X : Cx) : List ExceptHandler → List Cl → Prop
  | nil : ClsOk X [] []
  | only {x : Str} {c : Value} {ts : Addr → Value → Option Addr → TS} {b₀ : Stmt} {suite : List Stmt} {np pos' : Pos} {hds : List ExceptHandler} {l : List Cl} (hc : Names X x c)
      (hsu : ∀ (a : Addr) (oe : Obj) (cls : Value) (d : Option Addr) (pn : List (Addr × Obj)), Zc cls d oe → (∃ vs, oe.data = .fields vs) → PSs (X.suite a ((a, oe) :: pn)) (b₀ :: suite) (ts a cls d)) (r : ClsOk X hds l) :
      ClsOk X (.ExceptHandler (some (.Name x np)) none (b₀ :: suite) pos' :: hds) (⟨c, none, ts⟩ :: l)
  | named {x n : Str} {i : Nat} {c : Value} {ts : Addr → Value → Option Addr → TS} {b₀ : Stmt} {suite : List Stmt} {np pos' : Pos} {hds : List ExceptHandler} {l : List Cl} (hc : Names X x c) (hi : X.N[i]? = some n) (hln : X.env.kindOf n = some .local)
      (hsu : ∀ (a : Addr) (oe : Obj) (cls : Value) (d : Option Addr) (pn : List (Addr × Obj)), Zc cls d oe → (∃ vs, oe.data = .fields vs) → PSs (X.suite a ((a, oe) :: pn)) (b₀ :: suite) (ts a cls d)) (r : ClsOk X hds l) :
      ClsOk X (.ExceptHandler (some (.Name x np)) (some n) (b₀ :: suite) pos' :: hds) (⟨c, some i, ts⟩ :: l)
section
variable {X : Cx} {body : List Stmt} {h₀ : ExceptHandler} {hds : List ExceptHandler} {l : List Cl} {pos : Pos} {tb : WX → TS} {Wout : WX}
theorem ps_try_mix (hs : X.stack = X.env :: X.outer) (hf : X.env.frame = some X.env.locals) (hN : X.N.Nodup) (tk : Takes X Wout)
    (hb : ∀ (W : WX) (pn : List (Addr × Obj)) (xe : Value → Shared → Prop), Takes (X.tr pn xe) W → PassesOwn (model X.prog X.w) X.A X.env xe → PSs (X.tr pn xe) body (tb W))
    (hh : ClsOk X (h₀ :: hds) l) : PS X (.Try body (h₀ :: hds) [] [] pos) (fun D σ H => tb (wMix X.K Wout D l) D σ H) := by
  refine ⟨fun pins s σ H D I h => ?_⟩
  have ok := I.ok
  have hfr : X.A.frames = some (X.env :: X.outer) := by rw [ok.frames, hs]
  refine wpAny_Try_except ?_
  refine wpAny_mono ((hb (wMix X.K Wout D l) (X.pn ++ pins) (fun e s₁ => wpAny (model X.prog X.w) X.A (noteFrame e X.env) (fun _ s₂ => wpAny (model X.prog X.w) X.A (setFlight e none) (fun _ s₃ =>
    wpAny (model X.prog X.w) X.A (handleBy e X.env (h₀ :: hds)) (SP X pins D) X.xe s₃) X.xe s₂) X.xe s₁) (fun u s' xx => ?_) PassesOwn.looking).run [] s σ H D (I.toTry _) h) (fun f s1 hsp => ?_) (fun e s1 he => he)
  · -- the catch
    obtain ⟨a, B, sI, pins', σ', H', cls, d, rfl, J', nb, up, sky, na, os, ag, w⟩ := xx
    have J : Inv X pins σ' H' sI := J'.ofTry ok
    have sky' : Sky B (X.env :: X.outer) a (Zc cls d) X.env.locals s'.heap := by rw [← hs]; exact sky
    show wpAny (model X.prog X.w) X.A (noteFrame (.ref a) X.env) _ _ _
    refine Sky.land Zc.steady hfr hf sky' fun h3 fl3 up3 => ?_
    have J3 : Inv X pins σ' H' { s' with heap := h3 } := J.landed nb fl3.1 (up.trans up3) os ag
    obtain ⟨oe3, vs3, he3, hz3, hd3⟩ := fl3.there
    have notFr : ∀ {h : Heap} {o : Obj} {vs : Array Value}, h.FunFrames B (X.env :: X.outer) → h.get? a = some o → o.data = .fields vs → a ∉ frs (X.env :: X.outer) := fun {h o vs} ff e dd hm => by
      obtain ⟨_, o', e', hnf⟩ := ff.mem hm
      rw [e] at e'; cases e'
      exact hnf _ dd
    have nfr := notFr fl3.2.2.1 he3 hd3
    have nL : a ≠ X.env.locals := fun z => nfr (List.mem_filterMap.mpr ⟨X.env, List.mem_cons_self, by rw [hf, z]⟩)
    have nF : a ∉ X.fs := fun hm => by
      obtain ⟨e, he, q⟩ := List.mem_filterMap.mp hm
      exact nfr (List.mem_filterMap.mpr ⟨e, List.mem_cons_of_mem _ he, q⟩)
    have S3 := J3.suite he3 hd3 na nL nF
    have go : ∀ {hds' : List ExceptHandler} {l' : List Cl}, ClsOk X hds' l' → wMix X.K Wout D l' cls d σ' H' →
        wpAny (model X.prog X.w) X.A (handleBy (.ref a) X.env hds') (SP X pins D) X.xe { s' with heap := h3 } := by
      intro hds' l' hk
      induction hk with
      | nil =>
        intro w
        refine wpAny_handleBy_nil ?_
        obtain ⟨k1, k2, k3, oe, vs, T, oT, ts', he, hz, hd, h1, hr⟩ := id fl3
        unfold PySem.passOn
        refine wpAny_bind (wpAny_field he hd h1 ?_)
        rw [if_neg (show ¬ ((Value.ref T == Value.none) = true) from by simp)]
        have fin : wpAny (model X.prog X.w) X.A (setFlight (.ref a) X.env.frame) (fun _ s4 => wpAny (model X.prog X.w) X.A (throw (.ref a) : Sem Flow) (SP X pins D) X.xe s4) X.xe { s' with heap := h3 } := by
          rw [hf]
          refine HandSPX.setFlight_upZ fl3 fun h4 hh4 up4 => wpAny_throw (tk _ _ ?_)
          exact ⟨a, B, sI, pins, σ', H', cls, d, rfl, J, nb, (up.trans up3).trans up4, .inr (.inr (by rw [hs]; exact hh4)), na, os, ag, w⟩
        first
          | exact wpAny_bind (wpAny_pure (wpAny_bind fin))
          | exact wpAny_bind fin
      | @only x c ts b₀ suite np pos' hds2 l2 hc hsu r ih =>
        intro w
        obtain ⟨b, hb1, hyes, hno⟩ := w
        refine wpAny_handleBy_cons (codeAny_handlers_test ?_) (by intro q; cases q)
        have LT : PySem.W.Looks (model X.prog X.w) h3 (typeOf (.ref a)) cls := fun A Q E s k q => wpAny_typeOf_ref (k _ _ he3) (by rw [hz3.1]; exact q)
        have LM := PySem.W.exm_one (M := model X.prog X.w) (J3.kIn) LT hb1
        have test : ∀ {Q : Value → Shared → Prop} {E : Value → Shared → Prop}, Q c { s' with heap := h3 } → wpAny (model X.prog X.w) (X.A.mark (some (.ref a))) (eval (.Name x np) X.env) Q E { s' with heap := h3 } := fun {Q E} q => by
          obtain ⟨hg, hdbg, hm | ⟨hm, hv, hnn⟩⟩ := hc
          · exact ld_glob (X := X.suite a ((a, oe3) :: (X.pn ++ pins))) S3 hg hm q hdbg
          · exact ld_blt (X := X.suite a ((a, oe3) :: (X.pn ++ pins))) S3 hg hm hv q hnn hdbg
        refine test (LM.here ?_)
        cases b with
        | true =>
          refine codeAny_handlers_suite ?_
          refine HandSPX.lands_againZ fl3 fun h4 fl4 up4 => ?_
          have J4 : Inv X pins σ' H' { s' with heap := h4 } := J.landed nb fl4.1 ((up.trans up3).trans up4) os ag
          obtain ⟨oe4, vs4, he4, hz4, hd4⟩ := fl4.there
          have S4 := J4.suite he4 hd4 na nL nF
          refine wpAny_mono ((hsu a oe4 cls d (X.pn ++ pins) hz4 ⟨_, hd4⟩).run [] _ _ H' _ S4 (hyes rfl a na)) (fun f s6 hsp => ?_) (fun _ _ z => False.elim z)
          cases f with
          | next =>
            obtain ⟨σ6, H6, S6, q6⟩ := hsp
            exact ⟨_, _, S6.unsuite ok, q6⟩
          | brk =>
            obtain ⟨σ6, H6, S6, q6⟩ := hsp
            exact ⟨_, _, S6.unsuite ok, q6⟩
          | cont =>
            obtain ⟨σ6, H6, S6, q6⟩ := hsp
            exact ⟨_, _, S6.unsuite ok, q6⟩
          | ret u =>
            obtain ⟨v6, σ6, H6, S6, r6, q6⟩ := hsp
            exact ⟨_, _, _, S6.unsuite ok, r6, q6⟩
        | false =>
          show wpAny _ X.A (handleBy (.ref a) X.env hds2) _ _ _
          exact ih (hno rfl)
      | @named x n i c ts b₀ suite np pos' hds2 l2 hc hi hln hsu r ih =>
        intro w
        obtain ⟨b, hb1, hyes, hno⟩ := w
        have hloc : Loc X.env.scope n := .inl hln
        refine wpAny_handleBy_cons (codeAny_handlers_test ?_) (by intro q; cases q)
        have LT : PySem.W.Looks (model X.prog X.w) h3 (typeOf (.ref a)) cls := fun A Q E s k q => wpAny_typeOf_ref (k _ _ he3) (by rw [hz3.1]; exact q)
        have LM := PySem.W.exm_one (M := model X.prog X.w) (J3.kIn) LT hb1
        have test : ∀ {Q : Value → Shared → Prop} {E : Value → Shared → Prop}, Q c { s' with heap := h3 } → wpAny (model X.prog X.w) (X.A.mark (some (.ref a))) (eval (.Name x np) X.env) Q E { s' with heap := h3 } := fun {Q E} q => by
          obtain ⟨hg, hdbg, hm | ⟨hm, hv, hnn⟩⟩ := hc
          · exact ld_glob (X := X.suite a ((a, oe3) :: (X.pn ++ pins))) S3 hg hm q hdbg
          · exact ld_blt (X := X.suite a ((a, oe3) :: (X.pn ++ pins))) S3 hg hm hv q hnn hdbg
        refine test (LM.here ?_)
        cases b with
        | true =>
          refine codeAny_handlers_suite_as ?_
          refine HandSPX.lands_againZ fl3 fun h4 fl4 up4 => ?_
          have J4 : Inv X pins σ' H' { s' with heap := h4 } := J.landed nb fl4.1 ((up.trans up3).trans up4) os ag
          obtain ⟨oe4, vs4, he4, hz4, hd4⟩ := fl4.there
          have S4 := J4.suite he4 hd4 na nL nF
          refine store_ok (X := X.suite a ((a, oe4) :: (X.pn ++ pins))) (v := .ref a) S4 hN hi hloc rfl (fun s5 S5 => ?_) (.inr hln)
          refine wpAny_mono ((hsu a oe4 cls d (X.pn ++ pins) hz4 ⟨_, hd4⟩).run [] s5 _ H' _ S5 (hyes rfl a na)) (fun f s6 hsp => ?_) (fun _ _ z => False.elim z)
          have end_ : ∀ {σ6 : L2.St} {H6 : Hp} {Q : Shared → Prop}, Inv (X.suite a ((a, oe4) :: (X.pn ++ pins))) [] σ6 H6 s6 → (∀ s7, Inv X pins (σ6.set i none) H6 s7 → Q s7) →
              wpAny (model X.prog X.w) X.A (do bindName X.env n .none; unbindBehindTheSuite X.env n pos') (fun _ s7 => Q s7) X.xe s6 := fun {σ6 H6 Q} S6 hq => gone_ok (S6.unsuite ok) hN hi hln hq
          cases f with
          | next =>
            obtain ⟨σ6, H6, S6, q6⟩ := hsp
            exact end_ S6 fun s7 J7 => ⟨_, _, J7, q6⟩
          | brk =>
            obtain ⟨σ6, H6, S6, q6⟩ := hsp
            exact end_ S6 fun s7 J7 => ⟨_, _, J7, q6⟩
          | cont =>
            obtain ⟨σ6, H6, S6, q6⟩ := hsp
            exact end_ S6 fun s7 J7 => ⟨_, _, J7, q6⟩
          | ret u =>
            obtain ⟨v6, σ6, H6, S6, r6, q6⟩ := hsp
            exact end_ S6 fun s7 J7 => ⟨_, _, _, J7, r6, q6⟩
        | false =>
          show wpAny _ X.A (handleBy (.ref a) X.env hds2) _ _ _
          exact ih (hno rfl)
    exact go hh w
  · cases f with
    | next =>
      obtain ⟨σ', H', J', q⟩ := hsp
      exact wpAny_execs_nil ⟨σ', H', J'.ofTry ok, q⟩
    | brk =>
      obtain ⟨σ', H', J', q⟩ := hsp
      exact ⟨σ', H', J'.ofTry ok, q⟩
    | cont =>
      obtain ⟨σ', H', J', q⟩ := hsp
      exact ⟨σ', H', J'.ofTry ok, q⟩
    | ret u =>
      obtain ⟨v, σ', H', J', r, q⟩ := hsp
      exact ⟨v, σ', H', J'.ofTry ok, r, q⟩
end
/-- one clause over data: which raised classes it takes, its name's slot, its suite -/
structure DCl where
  tbl : List (Str × Bool)
  i : Option Nat
  ts : Str → Addr → Option Addr → TSD
def suiteED (i : Option Nat) (D : EndsD) : EndsD := match i with
  | none => { D with ex := fun _ _ _ => False }
  | some i => { nx := fun σ2 G2 => D.nx (σ2.set i none) G2, rt := D.rt, bk := fun σ2 G2 => D.bk (σ2.set i none) G2, ct := fun σ2 G2 => D.ct (σ2.set i none) G2, ex := fun _ _ _ => False }
def suiteSD (i : Option Nat) (a : Addr) (d : Option Addr) (x : XD) (σ : SD) : SD := match i with
  | none => σ
  | some i => σ.set i (some (excD a d x))
def goM (D : EndsD) (n : Str) (x : XD) (σ : SD) (G : HH) : List DCl → Prop
  | [] => D.ex x σ G
  | k :: r => ∃ b, (n, b) ∈ k.tbl ∧ (b = true → ∀ a d, (d = none → x.ns = []) → k.ts n a d (suiteED k.i D) (suiteSD k.i a d x σ) G) ∧ (b = false → goM D n x σ G r)
def dTryM (ks : List DCl) (tb : TSD) : TSD := fun D σ G => tb { D with ex := fun x σ' G' => ∃ n, x.cls = .own n ∧ goM D n x σ' G' ks } σ G
section
variable {X : Cx} {W : WX} {body suite : List Stmt} {h₀ : ExceptHandler} {hds : List ExceptHandler} {b₀ : Stmt} {pos np pos' : Pos} {tb : TSD} {ks : List DCl}
inductive DClsOk (X : Cx) : List ExceptHandler → List DCl → List Value → Prop
  | nil : DClsOk X [] [] []
  | only {x : Str} {C : Addr} {tbl : List (Str × Bool)} {ts : Str → Addr → Option Addr → TSD} {b₀ : Stmt} {suite : List Stmt} {np pos' : Pos} {hds : List ExceptHandler} {l : List DCl} {vs : List Value} (hg : Gl X x) (hm : X.mg x = some (.ref C)) (hT : ExTab X.K C tbl)
      (hsu : ∀ (n : Str) (C' : Addr), gaddr X.K n = some C' → ∀ (a : Addr) (oe : Obj) (d : Option Addr) (pn : List (Addr × Obj)), Zc (.ref C') d oe → (∃ vs, oe.data = .fields vs) → DSs (X.suite a ((a, oe) :: pn)) WF (b₀ :: suite) (ts n a d))
      (r : DClsOk X hds l vs) (hdb : (x == ("__debug__" : Str)) = false := by decide) : DClsOk X (.ExceptHandler (some (.Name x np)) none (b₀ :: suite) pos' :: hds) (⟨tbl, none, ts⟩ :: l) (.ref C :: vs)
  | named {x nm : Str} {i : Nat} {C : Addr} {tbl : List (Str × Bool)} {ts : Str → Addr → Option Addr → TSD} {b₀ : Stmt} {suite : List Stmt} {np pos' : Pos} {hds : List ExceptHandler} {l : List DCl} {vs : List Value} (hi : X.N[i]? = some nm) (hln : X.env.kindOf nm = some .local) (hg : Gl X x) (hm : X.mg x = some (.ref C)) (hT : ExTab X.K C tbl)
      (hsu : ∀ (n : Str) (C' : Addr), gaddr X.K n = some C' → ∀ (a : Addr) (oe : Obj) (d : Option Addr) (pn : List (Addr × Obj)), Zc (.ref C') d oe → (∃ vs, oe.data = .fields vs) → DSs (X.suite a ((a, oe) :: pn)) WF (b₀ :: suite) (ts n a d))
      (r : DClsOk X hds l vs) (hdb : (x == ("__debug__" : Str)) = false := by decide) : DClsOk X (.ExceptHandler (some (.Name x np)) (some nm) (b₀ :: suite) pos' :: hds) (⟨tbl, some i, ts⟩ :: l) (.ref C :: vs)
def clOf (K : Frag) : List DCl → List Value → List Cl
  | k :: r, v :: vs => ⟨v, k.i, tsK K k.ts⟩ :: clOf K r vs
  | _, _ => []
theorem DClsOk.ok {hds : List ExceptHandler} {l : List DCl} {vs : List Value} (h : DClsOk X hds l vs) : ClsOk X hds (clOf X.K l vs) := by
  induction h with
  | nil => exact .nil
  | @only x C tbl ts b₀ suite np pos' hds l vs hg hm hT hsu r hdb ih =>
    exact .only ⟨hg, hdb, .inl hm⟩ (fun a oe cls d pn hz hv => ⟨fun pins s σ H D I ⟨n, C', hC, e, h⟩ => (hsu n C' hC a oe d pn (by rw [← e]; exact hz) hv).run pins s σ H D I h⟩) ih
  | @named x nm i C tbl ts b₀ suite np pos' hds l vs hi hln hg hm hT hsu r hdb ih =>
    exact .named ⟨hg, hdb, .inl hm⟩ hi hln (fun a oe cls d pn hz hv => ⟨fun pins s σ H D I ⟨n, C', hC, e, h⟩ => (hsu n C' hC a oe d pn (by rw [← e]; exact hz) hv).run pins s σ H D I h⟩) ih
theorem DClsOk.tabs {hds : List ExceptHandler} {l : List DCl} {vs : List Value} (h : DClsOk X hds l vs) : ∀ (i : Nat) k v, l[i]? = some k → vs[i]? = some v → ∃ C, v = .ref C ∧ ExTab X.K C k.tbl := by
  induction h with
  | nil => intro i k v e; simp at e
  | only hg hm hT hsu r hdb ih =>
    intro i k v e1 e2
    cases i with
    | zero => simp at e1 e2; subst e1; subst e2; exact ⟨_, rfl, hT⟩
    | succ i => exact ih i k v (by simpa using e1) (by simpa using e2)
  | named hi hln hg hm hT hsu r hdb ih =>
    intro i k v e1 e2
    cases i with
    | zero => simp at e1 e2; subst e1; subst e2; exact ⟨_, rfl, hT⟩
    | succ i => exact ih i k v (by simpa using e1) (by simpa using e2)
theorem mix_of {D : Ends} {DD : EndsD} {H H' : Hp} {G G' : HH} {y : XD} {n : Str} {C' : Addr} {d : Option Addr} {σ' : L2.St} {σD' : SD} (he : EndR X.K W H G DD D) (hC : gaddr X.K n = some C') (s : Stp H G H' G') (r : RelH X.K H' G') (p : SRp X.K H' G' σD' σ') (xr : XRp X.K H' G' y (.ref C') d) :
    ∀ {hds : List ExceptHandler} {l : List DCl} {vs : List Value}, DClsOk X hds l vs → goM DD n y σD' G' l → wMix X.K W D (clOf X.K l vs) (.ref C') d σ' H' := by
  intro hds l vs h
  induction h with
  | nil => intro w; exact he.ex _ _ _ _ _ _ _ s r p xr w
  | only hg hm hT hsu r' hdb ih =>
    rintro ⟨b, hm', h1, h2⟩
    refine ⟨b, hT _ hm' C' hC, fun hb' a ha => ⟨n, C', hC, rfl, σD', G', _, r, p, h1 hb' a d (fun e => by subst e; exact xr.2.1), ⟨he.nx.mono s, he.rt.mono s, he.bk.mono s, he.ct.mono s, fun _ _ _ _ _ _ _ _ _ _ _ z => z⟩⟩, fun hb' => ih (h2 hb')⟩
  | @named x nm i C tbl ts b₀ suite np pos' hds l vs hi hln hg hm hT hsu r' hdb ih =>
    rintro ⟨b, hm', h1, h2⟩
    refine ⟨b, hT _ hm' C' hC, fun hb' a ha => ⟨n, C', hC, rfl, σD'.set i (some (excD a d y)), G', _, r, p.set i (xr.excD a), h1 hb' a d (fun e => by subst e; exact xr.2.1), ⟨fun σ2 H2 σD2 G2 s2 r2 p2 q2 => he.nx _ _ _ _ (s.trans s2) r2 (p2.drop i none) q2, he.rt.mono s, fun σ2 H2 σD2 G2 s2 r2 p2 q2 => he.bk _ _ _ _ (s.trans s2) r2 (p2.drop i none) q2, fun σ2 H2 σD2 G2 s2 r2 p2 q2 => he.ct _ _ _ _ (s.trans s2) r2 (p2.drop i none) q2, fun _ _ _ _ _ _ _ _ _ _ _ z => z⟩⟩, fun hb' => ih (h2 hb')⟩
theorem ds_tryM {vs : List Value} (hN : X.N.Nodup) (tk : Takes X W)
    (hb : ∀ (W' : WX) (pn : List (Addr × Obj)) (xe : Value → Shared → Prop), Takes (X.tr pn xe) W' → PassesOwn (model X.prog X.w) X.A X.env xe → DSs (X.tr pn xe) W' body tb)
    (hh : DClsOk X (h₀ :: hds) ks vs) (hs : X.stack = X.env :: X.outer := by rfl) (hf : X.env.frame = some X.env.locals := by rfl) :
    DS X W (.Try body (h₀ :: hds) [] [] pos) (dTryM ks tb) :=
  PS.imp (ps_try_mix (tb := fun W' => lftS X.K W' tb) (Wout := W) hs hf hN tk hb hh.ok)
    fun D σ H ⟨σD, G, DD, hR, hS, q, he⟩ => ⟨σD, G, _, hR, hS, q, ⟨he.nx, he.rt, he.bk, he.ct, fun y cls d σ' σD' H' G' s r p xr ⟨n, en, w⟩ => by
      have xr0 := xr
      obtain ⟨hc, _⟩ := xr
      rw [en] at hc
      obtain ⟨C', hC, rfl⟩ := hc
      exact mix_of he hC s r p xr0 hh w⟩⟩
end
section
variable {D : EndsD} {σ : SD} {G : HH} {tb : TSD} {ks : List DCl}
theorem st_tryM (h : tb { D with ex := fun x σ' G' => ∃ n, x.cls = .own n ∧ goM D n x σ' G' ks } σ G) : dTryM ks tb D σ G := h
end
end DL

namespace DL
open PySem PySem.Spec PyProof.Rows L2
open PySem.W (Frag)
/-! ### o.m(), m a staticmethod of o's class -/
structure SInst (K : Frag) (C : Addr) (m : Str) (p g : Addr) : Prop where
  pg : PySem.W.plainGet K C Str.empty = true
  ic : PySem.W.isClsIn K C = true
  at_ : PySem.W.findIn K (.ref C) m = some (some (.ref p))
  ty : PySem.W.typeIn K (.ref p) = some (.type "staticmethod")
  get : PySem.W.specialIn K (.ref p) "__get__" = some (some (.builtin "staticmethod.__get__"))
  tk : PySem.W.takesIn K (.ref p) = some false
  cp : PySem.W.copiedNames.contains m = false
  rc : ∃ rest, PySem.W.recIn K p "staticmethod" = some (.ref g :: rest)
  hv : PySem.W.handedIn (.ref g) = true
theorem SInst.get' {K : Frag} {C : Addr} {m : Str} {p g : Addr} (k : SInst K C m p g) : PySem.W.plainGet K C m = true := k.pg
section
variable {X : Cx} {W : WX} {k : Nat} {C p g : Addr} {fd : FuncData} {ps : List Str} {mc : Value} {m x : Str} {sp : SpD} {e o : Expr} {es : List Expr} {pos apos p0 : Pos} {t : TAD} {to : TED} {pl : Sem Bool}
theorem getmethis_ok {A : Around} {E : Value → Shared → Prop} {pins : List (Addr × Obj)} {σ : L2.St} {H : Hp} {s : Shared} {a : Addr} {ox od : Obj} {Q : Value × List Value → Shared → Prop} (I : Inv X pins σ H s) (J : PySem.W.InstAt s.heap a ox C (some od)) (hl : PySem.W.lookIn m od = some none) (k : SInst X.K C m p g)
    (h : ∀ s', Inv X pins σ H s' → Q (.ref g, []) s') : wpAny (model X.prog X.w) A (getMethod (.ref a) m pl) Q E s := by
  obtain ⟨rest, hp⟩ := k.rc
  refine PySem.W.method_usual (r := some (.ref p)) I.kIn J (PySem.W.plainGet_of k.get').1 (PySem.W.plainGet_of k.get').2 k.at_ ?_ ?_
  · show ((PySem.W.typeIn X.K (.ref p)).any fun t => t != .type "function" && t != .type "method_descriptor" && t != .type "wrapper_descriptor") = true
    rw [k.ty]
    first
    | rfl
    | decide +kernel
  · refine PySem.W.get_bind I.kIn J (PySem.W.plainGet_of k.get').1 (ClX.find_cm k.ic k.at_ k.get k.tk k.cp hl) (PySem.W.plainGet_of k.get').2 ?_
    exact wpAny_call (PySem.W.sm_get (s := { s with toks := s.toks + 1 }) I.kIn hp (PySem.W.handed_on k.hv (h _ (I.tok _))))
def dSMeth (c m : Str) (sp : SpD) (ta : TED) : TED := fun σ G Q E => ta σ G (fun x G1 => ∃ ns ds, InsD G1 x c ns ds ∧ lk m ns ds = none ∧ sp [] G1 Q E) E
theorem de_ismeth0 {c m : Str} {pl : Sem Bool} (hC : gaddr X.K c = some C) (r : SInst X.K C m p g) (F : FnG X.prog X.w X.K X.mg X.base k g fd ps sp) (hgd : X.A.guards = some []) (hr : Room k X.A) (hk : PySem.W.keepIn X.K (.ref g) = true) (hb : Binds X.K fd ps []) (tk : Takes X W) (ho : DE X W o to)
    (ht : eval (.Call (.Attribute o m apos) [] [] pos) X.env = (do
      let ov ← eval o X.env
      standAt apos.atName
      let (f, first) ← holding [ov] (getMethod ov m pl)
      callWith pos f first (backTo pos (starEach [] X.env)) (backToKw pos (keywordEach [] X.env))) := by rfl) :
    DE X W (.Call (.Attribute o m apos) [] [] pos) (dSMeth c m sp to) := by
  have ho' : PE X o (lft X.K W to) := ho
  refine ⟨fun pins s σ H Q I ⟨σD, G, QD, E, hR, hS, q, hq, hE⟩ => ?_⟩
  refine PySem.W.methodCall_KW (pl := pl) (thn (ho'.run pins s σ H (fun v H1 => ∃ d G1, Stp H G H1 G1 ∧ RelH X.K H1 G1 ∧ Rp X.K H1 G1 d v ∧ ∃ ns ds, InsD G1 d c ns ds ∧ lk m ns ds = none ∧ sp [] G1 QD E) I ⟨σD, G, _, E, hR, hS, q, fun v H1 d G1 s1 r1 p1 z => ⟨d, G1, s1, r1, p1, z⟩, hE⟩) fun u s1 ⟨x, H1, I1, rx, d, G1, s1', r1, p1, ns, ds, hi, hl, q1⟩ => ?_) ht
  obtain ⟨a, C', dx, xs, ex, h1, h2, h3, h4⟩ := hi.of r1 p1
  rw [hC] at h1; cases h1
  subst ex
  obtain rfl : u = Value.ref a := rx
  have hl' : (ns.zip xs).lookup m = none := by
    rcases lk_zip (f := m) h4 h3 with ⟨_, z⟩ | ⟨d', v, e1, _, _⟩
    · exact z
    · rw [hl] at e1; cases e1
  obtain ⟨mA, O, rr, _, _, _⟩ := ins_get I1.hok h2
  have hn : mA m = none := RelO.none_of (by rw [← hl']; exact rr m)
  obtain ⟨od, J, hlk⟩ := O.look
  refine getmethis_ok I1 J (by rw [hlk m, hn]) r fun s2 I2 => ?_
  refine PySem.W.callWith_K0 I2.kIn hk (run_call (us := []) (vs := []) F hgd hr hb tk I2 .nil ?_)
  exact ⟨[], G1, QD, E, r1, .nil, q1, hq.mono s1', fun xd cls d' H' G' s' r' p' z' => hE _ _ _ _ _ (s1'.trans s') r' p' z'⟩
end
section
variable {σ : SD} {G : HH} {Q : QD} {E : ED} {c m : Str} {sp : SpD} {ta : TED}
theorem st_smeth (h : ta σ G (fun x G1 => ∃ ns ds, InsD G1 x c ns ds ∧ lk m ns ds = none ∧ sp [] G1 Q E) E) : dSMeth c m sp ta σ G Q E := h
end
/-- the built-in kinds -/
abbrev BI7 : List String := ["NoneType", "bool", "int", "str", "tuple", "list", "dict"]
/-! ### upper -/
section
variable {X : Cx} {W : WX} {o : Expr} {to : TED} {apos pos : Pos}
def upS : D → HH → QD → Prop := fun x G Q => ∃ a, x = .str a ∧ a.length ≤ 5592405 ∧ Q (.str (Txt.upper a)) G
theorem de_upper (ho : DE X W o to) (hbase : attributeBase o "upper" X.env (eval o X.env) = eval o X.env := by rfl) (hline : (apos.endLine == pos.line) = true := by rfl) : DE X W (.Call (.Attribute o "upper" apos) [] [] pos) (dUn upS to) :=
  PE.imp (pe_upper ho hbase hline) fun σ H Q ⟨σD, G, QD, E, hR, hS, q, hq, he⟩ =>
    ⟨σD, G, _, E, hR, hS, q, fun v1 H1 d1 G1 s1 r1 p1 ⟨a, e, hl, q1⟩ => by
      subst e; cases p1
      exact ⟨⟨_, rfl⟩, a, rfl, rfl, hl, hq _ _ _ _ s1 r1 (.str _) q1⟩, he⟩
theorem st_upper {G : HH} {Q : QD} {a : Str} (hl : a.length ≤ 5592405) (h : Q (.str (Txt.upper a)) G) : upS (.str a) G Q := ⟨a, rfl, hl, h⟩
end
end DL

namespace DL
open PySem PySem.Spec PyProof.Rows L2
open PySem.W (Frag)
/-! ### == with an own __eq__ on the right, a built-in value on the left -/
section
variable {prog : Program} {w : World} {A : Around} {E : Value → Shared → Prop} {s : Shared} {K : Frag} {x C L f : Addr} {h₀ : Heap} {m : Str → Option Value} {ox : Obj} {od : Option Obj} {name : Str} {u tb : Value}
open PySem.W (InstAt findIn isFn mroIn notFirst looks_findIn looks_mroIn looks_subIn subIn Looks)
def Declines (prog : Program) (w : World) (E : Value → Shared → Prop) (u : Value) (x : Addr) (id : String) (s : Shared) : Prop := ∀ (A : Around) (Q' : Value → Shared → Prop), Q' .notImplemented s → wpAny (model prog w) A (call (.builtin id) [u, .ref x]) Q' E s
theorem refl_K {T id : String} {Q : Value → Shared → Prop} (hu : A.units < cLine) (F0 : Fr h₀ L s.heap m) (X₀ : K.In h₀) (I : InstAt s.heap x ox C od) (ht : s.TypeIs u T) (S : Slot T "__eq__" id) (hm : mroIn K C (.type T) = some false)
    (hd : Declines prog w E u x id s) (hs : findIn K (.ref C) "__eq__" = some (some (.ref f))) (hf : isFn K (.ref f) = true)
    (h : wpAny (model prog w) A (call (.ref f) [.ref x, u]) (PySem.W.CmpBack Q) E s) : wpAny (model prog w) A (richCompare .Eq u (.ref x)) Q E s := by
  have X := X₀.keeps F0.keep
  have one : wpAny (model prog w) A (tryCompare (.ref x) "__eq__" u) (fun r s' => ∃ v, r = some v ∧ Q v s') E s := by
    unfold tryCompare
    refine wpAny_bind (PySem.W.ifBound_K X I hs hf (wpAny_mono h (fun v s' hv => ?_) fun _ _ e => e))
    cases v <;> first | exact hv.elim | exact wpAny_pure ⟨_, rfl, hv⟩
  have hi : cmpInfo .Eq = ("==", ("__eq__" : Str), ("__eq__" : Str)) := rfl
  unfold richCompare
  simp only [hi, ht.oneThing_none]
  refine wpAny_holding (wpAny_bind (wpAny_cRoomFor hu ?_))
  refine wpAny_bind (wpAny_typeOf ht (wpAny_bind (I.type.here ?_)))
  have hne : (Value.type T != Value.ref C) = true := by simp
  simp only [hne, if_true]
  refine wpAny_bind ((looks_mroIn X hm).here ?_)
  simp only [Bool.false_eq_true, if_false, Bool.not_false, if_true]
  refine wpAny_bind (m := tryCompare u _ (.ref x)) (wpAny_tryCompare_declines ht S (hd _ _ ⟨rfl, ?_⟩))
  refine wpAny_bind (m := tryCompare (.ref x) _ u) (wpAny_mono one (fun r s' z => ?_) fun _ _ e => e)
  obtain ⟨v, rfl, hq⟩ := z
  exact wpAny_pure hq
theorem dec_int {i : Int} {t : Tok} (I : InstAt s.heap x ox C od) (hd : ox.data = .plain) : Declines prog w E (.int i t) x "int.__eq__" s := fun A Q' q => by
  refine GQ.call_here F.slot_int_eq rfl F.entry_int_eq (F.args_int_eq_2 _ _) ?_
  obtain ⟨cls, dd, data, sl⟩ := ox
  have hl := I.at_
  simp only at hd
  subst hd
  obtain ⟨hp, g, d, tk, os⟩ := s
  wp_walk using wpAny_loadPart' hl, wpAny_load hl
  exact q
theorem dec_bool {i : Bool} (I : InstAt s.heap x ox C od) (hd : ox.data = .plain) : Declines prog w E (.bool i) x "int.__eq__" s := fun A Q' q => by
  refine GQ.call_here F.slot_bool_eq rfl F.entry_int_eq (F.args_int_eq_2 _ _) ?_
  obtain ⟨cls, dd, data, sl⟩ := ox
  have hl := I.at_
  simp only at hd
  subst hd
  obtain ⟨hp, g, d, tk, os⟩ := s
  wp_walk using wpAny_loadPart' hl, wpAny_load hl
  exact q
theorem dec_str {i : Str} {t : Tok} (I : InstAt s.heap x ox C od) (hd : ox.data = .plain) : Declines prog w E (.str i t) x "str.__eq__" s := fun A Q' q => by
  refine GQ.call_here F.slot_str_eq rfl F.entry_str_eq (F.args_str_eq_2 _ _) ?_
  obtain ⟨cls, dd, data, sl⟩ := ox
  have hl := I.at_
  simp only at hd
  subst hd
  obtain ⟨hp, g, d, tk, os⟩ := s
  wp_walk using wpAny_loadPart' hl, wpAny_load hl
  exact q
theorem dec_none (I : InstAt s.heap x ox C od) : Declines prog w E .none x "NoneType.__eq__" s := fun A Q' q => by
  refine GQ.call_here F.slot_NoneType_eq rfl F.entry_NoneType_eq (F.args_NoneType_eq_2 _ _) ?_
  obtain ⟨hp, g, d, tk, os⟩ := s
  wp_walk
  exact q
theorem dec_tuple {l : Addr} {o : Obj} (X : K.In s.heap) (I : InstAt s.heap x ox C od) (ho : s.heap.get? l = some o) (hc : o.cls = .type "tuple") (hm : mroIn K C (.type "tuple") = some false) : Declines prog w E (.ref l) x "tuple.__eq__" s := fun A Q' q => by
  refine GQ.call_here F.slot_tuple_eq ⟨_, ho, hc⟩ F.entry_tuple_eq (F.args_tuple_eq_2 _ _) ?_
  have LC := looks_mroIn (M := model prog w) X hm
  have L0 := I.type (M := model prog w)
  obtain ⟨hp, g, d, tk, os⟩ := s
  wp_walk using wpAny_loadPart' ho, L0.at, LC.at
  exact q
theorem dec_list {l : Addr} {o : Obj} (X : K.In s.heap) (I : InstAt s.heap x ox C od) (ho : s.heap.get? l = some o) (hc : o.cls = .type "list") (hm : mroIn K C (.type "list") = some false) : Declines prog w E (.ref l) x "list.__eq__" s := fun A Q' q => by
  refine GQ.call_here F.slot_list_eq ⟨_, ho, hc⟩ F.entry_list_eq (F.args_list_eq_2 _ _) ?_
  have LC := looks_mroIn (M := model prog w) X hm
  have L0 := I.type (M := model prog w)
  obtain ⟨hp, g, d, tk, os⟩ := s
  wp_walk using wpAny_loadPart' ho, L0.at, LC.at
  exact q
theorem dec_dict {l : Addr} {o : Obj} (X : K.In s.heap) (I : InstAt s.heap x ox C od) (ho : s.heap.get? l = some o) (hc : o.cls = .type "dict") (hm : mroIn K C (.type "dict") = some false) : Declines prog w E (.ref l) x "dict.__eq__" s := fun A Q' q => by
  refine GQ.call_here F.slot_dict_eq ⟨_, ho, hc⟩ F.entry_dict_eq (F.args_dict_eq_2 _ _) ?_
  have LC := looks_mroIn (M := model prog w) X hm
  have L0 := I.type (M := model prog w)
  obtain ⟨hp, g, d, tk, os⟩ := s
  wp_walk using wpAny_loadPart' ho, L0.at, LC.at
  exact q
end
section
variable {X : Cx} {pins : List (Addr × Obj)} {σ : L2.St} {H : Hp} {s : Shared} {W : WX}
/-- what stands on the left gives way -/
structure RefC (K : Frag) (C : Addr) : Prop where
  bi : ∀ T ∈ BI7, PySem.W.mroIn K C (.type T) = some false
theorem gives_way {E : Value → Shared → Prop} {v : V} {u : Value} {T : String} {x C : Addr} {ox : Obj} {od : Option Obj} (I : Inv X pins σ H s) (rv : RelV v u) (ty : TyX X.K H v (.type T)) (hT : T ∈ BI7) (J : PySem.W.InstAt s.heap x ox C od) (hp : ox.data = .plain) (r : RefC X.K C) :
    ∃ id, s.TypeIs u T ∧ Slot T "__eq__" id ∧ Declines X.prog X.w E u x id s := by
  have hm := r.bi T hT
  have tup : ∀ {a : Addr} {o : Obj}, T = "tuple" → u = .ref a → s.heap.get? a = some o → o.cls = .type "tuple" → ∃ id, s.TypeIs u T ∧ Slot T "__eq__" id ∧ Declines X.prog X.w E u x id s := fun eT eu h1 h2 => by
    subst eT eu; exact ⟨_, ⟨_, h1, h2⟩, F.slot_tuple_eq, dec_tuple I.kIn J h1 h2 hm⟩
  have lst : ∀ {a : Addr} {o : Obj}, T = "list" → u = .ref a → s.heap.get? a = some o → o.cls = .type "list" → ∃ id, s.TypeIs u T ∧ Slot T "__eq__" id ∧ Declines X.prog X.w E u x id s := fun eT eu h1 h2 => by
    subst eT eu; exact ⟨_, ⟨_, h1, h2⟩, F.slot_list_eq, dec_list I.kIn J h1 h2 hm⟩
  have dct : ∀ {a : Addr} {o : Obj}, T = "dict" → u = .ref a → s.heap.get? a = some o → o.cls = .type "dict" → ∃ id, s.TypeIs u T ∧ Slot T "__eq__" id ∧ Declines X.prog X.w E u x id s := fun eT eu h1 h2 => by
    subst eT eu; exact ⟨_, ⟨_, h1, h2⟩, F.slot_dict_eq, dec_dict I.kIn J h1 h2 hm⟩
  generalize hTT : Value.type T = TT at ty
  cases ty with
  | base b =>
    cases b with
    | non => cases hTT; cases (show u = Value.none from rv); exact ⟨_, rfl, F.slot_NoneType_eq, dec_none J⟩
    | bl y => cases hTT; cases (show u = Value.bool y from rv); exact ⟨_, rfl, F.slot_bool_eq, dec_bool J hp⟩
    | int i => cases hTT; obtain ⟨t, q⟩ := (show ∃ t, u = Value.int i t from rv); cases q; exact ⟨_, rfl, F.slot_int_eq, dec_int J hp⟩
    | str y => cases hTT; obtain ⟨t, q⟩ := (show ∃ t, u = Value.str y t from rv); cases q; exact ⟨_, rfl, F.slot_str_eq, dec_str J hp⟩
    | flt y => cases hTT; simp [BI7] at hT
    | @lst a xs ea =>
      cases hTT
      cases (show u = Value.ref a from rv)
      obtain ⟨_, _, n, _, h1⟩ := (show ObjOk X.prog X.w H s.heap a (.lst xs) from I.hok a _ ea)
      exact lst rfl rfl h1 rfl
    | @frz a ob xs ea =>
      cases hTT
      cases (show u = Value.ref a from rv)
      obtain ⟨_, _, _, n, _, h1⟩ := (show ObjOk X.prog X.w H s.heap a (.frz ob (.lst xs)) from I.hok a _ ea)
      exact lst rfl rfl h1 rfl
    | @tup a xs ea =>
      cases hTT
      cases (show u = Value.ref a from rv)
      obtain ⟨_, _, _, o, h1, h2, _⟩ := (show ObjOk X.prog X.w H s.heap a (.tup xs) from I.hok a _ ea)
      exact tup rfl rfl h1 h2
    | @dK a kvs ea =>
      cases hTT
      cases (show u = Value.ref a from rv)
      obtain ⟨_, _, vs, _, o, es, ep, h1, h2, _⟩ := (show ObjOk X.prog X.w H s.heap a (.dK kvs) from I.hok a _ ea)
      exact dct rfl rfl h1 h2.1
    | @dT a kvs ea =>
      cases hTT
      cases (show u = Value.ref a from rv)
      obtain ⟨_, _, xs, _, o, es, ep, h1, h2, _⟩ := (show ObjOk X.prog X.w H s.heap a (.dT kvs) from I.hok a _ ea)
      exact dct rfl rfl h1 h2.1
    | ins => cases hTT
  | byt y => cases hTT; simp [BI7] at hT
  | set => cases hTT; simp [BI7] at hT
  | @kList a o e c =>
    cases hTT
    cases (show u = Value.ref a from rv)
    exact lst rfl rfl (I.kIn a o e) c
  | @kTuple a o e c =>
    cases hTT
    cases (show u = Value.ref a from rv)
    exact tup rfl rfl (I.kIn a o e) c
  | @kDict a o e c =>
    cases hTT
    cases (show u = Value.ref a from rv)
    exact dct rfl rfl (I.kIn a o e) c
  | @fTuple a ob xs ea =>
    cases hTT
    cases (show u = Value.ref a from rv)
    obtain ⟨_, _, _, _, o, h1, h2, _⟩ := (show ObjOk X.prog X.w H s.heap a (.frz ob (.tup xs)) from I.hok a _ ea)
    exact tup rfl rfl h1 h2
  | @fDict a ob kvs ea =>
    cases hTT
    cases (show u = Value.ref a from rv)
    obtain ⟨_, _, _, vs, _, o, es, ep, h1, h2, _⟩ := (show ObjOk X.prog X.w H s.heap a (.frz ob (.dK kvs)) from I.hok a _ ea)
    exact dct rfl rfl h1 h2.1
def rEqR (c : Str) (sp : SpD) : D → D → HH → QD → Prop := fun x y G Q => ∃ k ns ds, TyD G x (.bi k) ∧ k ∈ BI7 ∧ InsD G y c ns ds ∧ sp [y, x] G (fun v G1 => ∃ b, v = .bl b ∧ Q (.bl b) G1) (fun _ _ => False)
theorem oEqR {k : Nat} {f C : Addr} {fd : FuncData} {ps : List Str} {sp : SpD} {c : Str} (hC : gaddr X.K c = some C) (hm : Meth X.K C "__eq__" f) (he : RefC X.K C) (F : FnG X.prog X.w X.K X.mg X.base k f fd ps sp) (hg : X.A.guards = some []) (hr : Room k X.A) (hb : Binds X.K fd ps []) : OpD X (compareOp .Eq) (rEqR c sp) :=
  ⟨fun x y H Q => ∃ a dx fs T, y = .ref a ∧ H a = some (.ins C dx fs) ∧ TyX X.K H x (.type T) ∧ T ∈ BI7 ∧ lsp X.K sp [y, x] H (fun v H1 => ∃ b, v = .bl b ∧ Q (.bl b) H1) E0, fun pins s σ H x y v u Q I rx ry ⟨a, dx, fs, T, ey, ha, ht, hT, q⟩ => by
    subst ey
    obtain rfl : u = Value.ref a := ry
    obtain ⟨m, fr⟩ := fr_of I
    obtain ⟨ox, od, J, hp⟩ := inst_of I ha
    obtain ⟨id, t1, t2, t3⟩ := gives_way (E := X.xe) I rx ht hT J hp he
    show wpAny _ _ (richCompare .Eq _ _) _ _ _
    refine refl_K hr.units0 fr I.ok.mod.kin J t1 t2 (he.bi T hT) t3 hm.at_ hm.fn (wpAny_mono (run_at F hg hr I.env0 hb I (us := [.ref a, v]) (.cons (vref a) (.cons rx .nil)) q) (fun r s' hr' => ?_) fun _ _ z => z)
    obtain ⟨w, H', J', rw', b, ew, q'⟩ := hr'
    subst ew
    obtain rfl : r = Value.bool b := rw'
    exact ⟨.bl b, H', J', rfl, q'⟩, fun x y H Q dx dy G QD hR px py ⟨k', ns, ds, ht, hk, hi, q⟩ hq => by
    obtain ⟨a, C', dx', xs, e1, h1, h2, h3, h4⟩ := hi.of hR py
    rw [hC] at h1; cases h1
    obtain ⟨t, t1, t2⟩ := ht.of hR px
    obtain rfl : t = .type k' := t2
    subst e1
    refine ⟨a, dx', _, k', rfl, h2, t1, hk, lsp0 hR (.cons py (.cons px .nil)) q fun v H' d G' s' r' p' ⟨b, e, z⟩ => ?_⟩
    subst e; cases p'
    exact ⟨b, rfl, hq _ _ _ _ s' r' (.bl _) z⟩⟩
theorem st_eqR {G : HH} {Q : QD} {c : Str} {T : String} {ns : List Str} {ds : List D} {sp : SpD} {x : D} (ht : TyD G x (.bi T)) (hT : T ∈ BI7) (h : sp [.obj c ns ds, x] G (fun v G1 => ∃ b, v = .bl b ∧ Q (.bl b) G1) (fun _ _ => False)) : rEqR c sp x (.obj c ns ds) G Q := ⟨T, ns, ds, ht, hT, .obj c ns ds, h⟩
end
end DL

namespace DL
open PySem PySem.Spec PyProof.Rows L2
open PySem.W (Frag)
/-! ### a comprehension's list that changes later: as one that is frozen, then put -/
section
variable {σ : SD} {G : HH} {Q : QD} {ok : HH → Prop} {g : Tgt} {tt : TTD} {te : TED} {vs : List Nat} {items : List D}
theorem lc_mut (h : LcG true items ok g tt te vs σ G (fun x G' => ∀ p, G p = none → G' p = none → ∀ acc, x = .lst acc → Q (.ref p) (gput G' p (.lst acc)))) : LcG false items ok g tt te vs σ G Q := by
  intro p hp
  obtain ⟨Iv, h1, h2, h3, h4⟩ := h p hp
  refine ⟨Iv, h1, h2, h3, fun G2 hI => ?_⟩
  obtain ⟨acc, e, hq⟩ := h4 G2 hI
  refine ⟨acc, e, ?_⟩
  rw [if_pos rfl] at hq
  rw [if_neg Bool.false_ne_true]
  have := hq p hp gdel_same acc rfl
  have eq : gput (gdel G2 p) p (.lst acc) = G2 := by
    funext b
    by_cases hb : b = p
    · subst hb; rw [gput_same, e]
    · rw [gput_ne hb, gdel_ne hb]
  rwa [eq] at this
end
end DL

namespace DL
open PySem PySem.Spec PyProof.Rows L2
open PySem.W (Frag)
/-! ### list(text) -/
def chrsV (z : Str) : List V := z.cps.toList.map fun c => V.str ⟨#[c]⟩
theorem call_list_text {X : Cx} (hc : X.calm = true) : CallR X (.type "list") (fun xs H Q => ∃ z, xs = [.str z] ∧ z.cps.size ≤ sizeLine ∧ ∀ q, H q = none → Q (.ref q) (upd H q (.lst (chrsV z)))) := by
  intro pins s σ H xs us Q I r h
  obtain ⟨z, e, hz, q⟩ := h
  subst e
  obtain ⟨u, eu, rx⟩ := vals1 r
  subst eu
  obtain ⟨t, rfl⟩ := rx
  refine PySem.call_list_str (I.ok.hd hc) z t (fun h' tk acc' c' hkeep hS hacc => ?_) hz
  refine ⟨.ref s.heap.objs.size, upd H s.heap.objs.size (.lst (chrsV z)), I.laid hkeep (Nat.le_refl _) (show ObjOk X.prog X.w _ _ _ (.lst (chrsV z)) from ⟨?_, acc'.toList, c', ?_, hS⟩), rfl, q _ (I.hok.fresh (Nat.le_refl _))⟩
  · simpa [chrsV] using hz
  · have el : acc'.toList.length = acc'.size := by simp
    refine vals_of_at (by rw [chrsV, List.length_map, el, hacc.1]; simp) fun j x w h1 h2 => ?_
    obtain ⟨c, u, hcu, hw⟩ := hacc.2 j w (by rw [← Array.getElem?_toList]; exact h2)
    unfold chrsV at h1
    rw [List.getElem?_map, Array.getElem?_toList, hcu] at h1
    cases h1
    exact ⟨u, hw⟩
def kListS : RCD := c1 fun x G Q => ∃ z, x = .str z ∧ z.cps.size ≤ sizeLine ∧ Q (.lst (chrs z)) G
theorem rps_chrs {K : Frag} {H : Hp} {G : HH} (z : Str) : Rps K H G (chrs z) (chrsV z) := by
  unfold chrs chrsV
  generalize z.cps.toList = l
  induction l with
  | nil => exact .nil
  | cons c l ih => exact .cons (.str _) ih
theorem cListS {X : Cx} (hc : X.calm = true) : CallD X (.type "list") kListS := ⟨_, call_list_text hc, fun xs H Q ds G QD hR hp ⟨x, e, z, ez, hz, q⟩ hq => by
  subst e
  obtain ⟨v, rfl, p⟩ := rps1 hp
  subst ez
  cases p
  exact ⟨z, rfl, hz, fun l hl => hq.lst hR hl (rps_chrs z) q⟩⟩
theorem st_listS {z : Str} {G : HH} {Q : QD} (hz : z.cps.size ≤ sizeLine) (h : Q (.lst (chrs z)) G) : kListS [.str z] G Q := ⟨_, rfl, z, rfl, hz, h⟩
end DL

namespace DL
open PySem PySem.Spec PyProof.Rows L2
open PySem.W (Frag)
/-! ### operators of an own class with a number beside it -/
section
variable {prog : Program} {w : World} {A : Around} {E : Value → Shared → Prop} {s : Shared} {K : Frag} {x C L f g : Addr} {h₀ : Heap} {m : Str → Option Value} {ox : Obj} {od : Option Obj} {name : Str} {a b tb : Value} {nm : String}
open PySem.W (InstAt findIn isFn mroIn notFirst looks_findIn looks_mroIn looks_subIn subIn Looks selfFirst)
/-- int op own: the number gives way -/
theorem rbin_K {op : Operator} {T id : String} {fo ro : Option Value} {Q : Value → Shared → Prop} (F0 : Fr h₀ L s.heap m) (X₀ : K.In h₀) (I : InstAt s.heap x ox C od) (ht : s.TypeIs a T) (S : Slot T (PySem.dunder op.info.2) id) (hc : selfFirst K C = true)
    (hs : findIn K (.ref C) (PySem.dunder op.info.2) = some (some (.ref f))) (hr : findIn K (.ref C) (dunderR op.info.2) = some (some (.ref g))) (hg : isFn K (.ref g) = true)
    (h1 : findIn K (.type T) (PySem.dunder op.info.2) = some fo) (h2 : findIn K (.type T) (dunderR op.info.2) = some ro) (hfo : ((fo.isSome && !isSeqSlot fo) || (ro.isSome && !isSeqSlot ro)) = true) (hm : mroIn K C (.type T) = some false)
    (hd : Declines prog w E a x id s)
    (h : wpAny (model prog w) A (call (.ref g) [.ref x, a]) (PySem.W.CmpBack Q) E s) : wpAny (model prog w) A (binaryOp op a (.ref x)) Q E s := by
  have X := X₀.keeps F0.keep
  obtain ⟨cd, rest, hcd, hmr⟩ := PySem.W.ksp_first hc
  rcases hi : op.info with ⟨sym, nm'⟩
  rw [hi] at hs hr h1 h2 S
  dsimp only at hs hr h1 h2 S
  have one := PySem.W.ksp_try (A := A) X I hr hg h
  have L4 := PySem.W.ksp_fillsT (M := model prog w) X h1 h2
  rw [hfo] at L4
  have hne : (Value.type T == Value.ref C) = false := by simp
  simp only [binaryOp, hi]
  refine wpAny_holding (wpAny_bind ?_)
  unfold binaryOp1
  refine wpAny_bind (wpAny_typeOf ht (wpAny_bind (I.type.here (wpAny_bind (L4.here ?_)))))
  simp only [hne, Bool.false_eq_true, if_false]
  refine wpAny_bind ((PySem.W.fills_K X hcd hmr hs).here ?_)
  simp only [Bool.and_self, if_true]
  refine wpAny_bind ((looks_mroIn X hm).here ?_)
  simp only [Bool.false_eq_true, if_false, Bool.not_false, Bool.and_true, Bool.and_self, if_true]
  refine wpAny_bind (wpAny_pure ?_)
  simp only [Bool.false_eq_true, if_false]
  refine wpAny_bind (m := tryMethod a _ (.ref x)) (wpAny_tryMethod_declines ht S (hd _ _ ⟨rfl, ?_⟩))
  dsimp only
  refine wpAny_bind (m := tryMethod (.ref x) _ a) (wpAny_mono one (fun r s' z => ?_) fun _ _ e => e)
  obtain ⟨v, rfl, hq⟩ := z
  refine wpAny_bind (wpAny_rule (wpAny_pure (wpAny_pure ?_)))
  exact hq
theorem dec_iadd {i : Int} {t : Tok} (I : InstAt s.heap x ox C od) (hd : ox.data = .plain) : Declines prog w E (.int i t) x "int.__add__" s := fun A Q' q => by
  refine GQ.call_here F.slot_int_add rfl F.entry_int_add (F.args_int_add_2 _ _) ?_
  obtain ⟨cls, dd, data, sl⟩ := ox
  have hl := I.at_
  simp only at hd
  subst hd
  obtain ⟨hp, g, d, tk, os⟩ := s
  wp_walk using wpAny_loadPart' hl, wpAny_load hl
  exact q
theorem dec_isub {i : Int} {t : Tok} (I : InstAt s.heap x ox C od) (hd : ox.data = .plain) : Declines prog w E (.int i t) x "int.__sub__" s := fun A Q' q => by
  refine GQ.call_here F.slot_int_sub rfl F.entry_int_sub (F.args_int_sub_2 _ _) ?_
  obtain ⟨cls, dd, data, sl⟩ := ox
  have hl := I.at_
  simp only at hd
  subst hd
  obtain ⟨hp, g, d, tk, os⟩ := s
  wp_walk using wpAny_loadPart' hl, wpAny_load hl
  exact q
theorem dec_imul {i : Int} {t : Tok} (I : InstAt s.heap x ox C od) (hd : ox.data = .plain) : Declines prog w E (.int i t) x "int.__mul__" s := fun A Q' q => by
  refine GQ.call_here F.slot_int_mul rfl F.entry_int_mul (F.args_int_mul_2 _ _) ?_
  obtain ⟨cls, dd, data, sl⟩ := ox
  have hl := I.at_
  simp only at hd
  subst hd
  obtain ⟨hp, g, d, tk, os⟩ := s
  wp_walk using wpAny_loadPart' hl, wpAny_load hl
  exact q
end
/-- an int beside an instance of the class at C: on the right .. -/
structure OpI (K : Frag) (C : Addr) (nm : String) : Prop where
  rc : ∃ rc, PySem.W.findIn K (.ref C) (dunderR nm) = some rc ∧ (rc = none ∨ ∃ g : Addr, rc = some (.ref g))
  fi : ∃ fo, PySem.W.findIn K (.type "int") (PySem.dunder nm) = some fo
  ri : ∃ ro, PySem.W.findIn K (.type "int") (dunderR nm) = some ro
  sub : PySem.W.subIn K (.type "int") (.ref C) = some false
/-- .. and on the left -/
structure OpRC (K : Frag) (C g : Addr) (nm : String) (id : String) : Prop where
  hs : ∃ f : Addr, PySem.W.findIn K (.ref C) (PySem.dunder nm) = some (some (.ref f))
  fi : PySem.W.findIn K (.type "int") (PySem.dunder nm) = some (some (.builtin id))
  ri : ∃ ro, PySem.W.findIn K (.type "int") (dunderR nm) = some ro
  mr : PySem.W.mroIn K C (.type "int") = some false
  nq : isSeqSlot (some (.builtin id)) = false
  sl : Slot "int" (PySem.dunder nm) id
  dc : ∀ {prog : Program} {w : World} {E : Value → Shared → Prop} {s : Shared} {x : Addr} {ox : Obj} {od : Option Obj} {i : Int} {t : Tok}, PySem.W.InstAt s.heap x ox C od → ox.data = .plain → Declines prog w E (.int i t) x id s
section
variable {X : Cx} {W : WX} {a b : Expr} {pos : Pos} {ta tb : TED} {k : Nat} {f C : Addr} {fd : FuncData} {ps : List Str} {sp : SpD}
def dOpI (c : Str) (sp : SpD) (ta tb : TED) : TED := fun σ G Q E => ta σ G (fun x G1 => tb σ G1 (fun y G2 => ∃ ns ds i, InsD G2 x c ns ds ∧ y = .int i ∧ sp [x, y] G2 Q E) E) E
theorem de_opI {c : Str} {op : Operator} {m : Str} (hC : gaddr X.K c = some C) (hsf : PySem.W.selfFirst X.K C = true) (hm : Meth X.K C m f) (em : PySem.dunder op.info.2 = m) (hi : OpI X.K C op.info.2) (F : FnG X.prog X.w X.K X.mg X.base k f fd ps sp) (hg : X.A.guards = some []) (hr : Room k X.A) (hb : Binds X.K fd ps []) (tk : Takes X W)
    (ha : DE X W a ta) (hb' : DE X W b tb) : DE X W (.BinOp a op b pos) (dOpI c sp ta tb) := by
  have ha1 : PE X a (lft X.K W ta) := ha
  have hb1 : PE X b (lft X.K W tb) := hb'
  refine ⟨fun pins s σ H Q I ⟨σD, G, QD, E, hR, hS, q, hq, hE⟩ => ?_⟩
  refine wpAny_BinOp (binT ha1 hb1 (R := fun x y H2 => ∃ aa dx fs i, x = .ref aa ∧ y = .int i ∧ H2 aa = some (.ins C dx fs) ∧ lsp X.K sp [x, y] H2 Q (WE W σ)) I ?_ fun v u s2 x y H2 I2 rx ry ⟨aa, dx, fs, i, ex, ey, ea, hl⟩ => ?_)
  · refine ⟨σD, G, _, E, hR, hS, q, fun v1 H1 d1 G1 s1 r1 p1 q1 => ?_, hE⟩
    refine ⟨σD, G1, _, E, r1, hS.mono s1, q1, fun v2 H2 d2 G2 s2 r2 p2 ⟨ns, ds, i, hi, ei, q2⟩ => ?_, hE.mono s1⟩
    have p1' := p1.mono s2
    obtain ⟨aa, C1, dx, xs, e1, h1, h2, _, _⟩ := hi.of r2 p1'
    rw [hC] at h1; cases h1
    subst ei
    have ev : v2 = .int i := by cases p2; rfl
    exact ⟨aa, dx, _, i, e1, ev, h2, [d1, .int i], G2, QD, E, r2, .cons p1' (.cons p2 .nil), q2, hq.mono (s1.trans s2), fun xd cls d' H' G' s' r' p' z' => hE _ _ _ _ _ ((s1.trans s2).trans s') r' p' z'⟩
  · subst ex; subst ey
    obtain rfl : v = Value.ref aa := rx
    obtain ⟨t, rfl⟩ := ry
    obtain ⟨m', fr⟩ := fr_of I2
    obtain ⟨ox, od, J, _⟩ := inst_of I2 ea
    obtain ⟨rc, hrc, hp⟩ := hi.rc
    obtain ⟨fo, hfo⟩ := hi.fi
    obtain ⟨ro, hro⟩ := hi.ri
    refine PySem.W.ksp_binT fr I2.ok.mod.kin J rfl hsf (by rw [em]; exact hm.at_) hm.fn hrc hp hfo hro hi.sub (wpAny_mono (run_call F hg hr hb tk I2 (us := [.ref aa, .int i t]) (vs := [.ref aa, .int i]) (.cons (vref aa) (.cons ⟨_, rfl⟩ .nil)) hl) (fun r s' hr' => ?_) fun _ _ z => z)
    obtain ⟨w, H', J', rw', q'⟩ := hr'
    cases r <;> first | exact ⟨w, H', J', rw', q'⟩ | (cases w <;> first | exact (nomatch rw') | (obtain ⟨_, z⟩ := rw'; cases z))
/-- int op own, by the reflected method -/
def dOpR (c : Str) (sp : SpD) (ta tb : TED) : TED := fun σ G Q E => ta σ G (fun x G1 => tb σ G1 (fun y G2 => ∃ ns ds i, InsD G2 y c ns ds ∧ x = .int i ∧ sp [y, x] G2 Q E) E) E
theorem de_opR {c : Str} {op : Operator} {m : Str} {id : String} (hC : gaddr X.K c = some C) (hsf : PySem.W.selfFirst X.K C = true) (hm : Meth X.K C m f) (em : dunderR op.info.2 = m) (hi : OpRC X.K C f op.info.2 id) (F : FnG X.prog X.w X.K X.mg X.base k f fd ps sp) (hg : X.A.guards = some []) (hr : Room k X.A) (hb : Binds X.K fd ps []) (tk : Takes X W)
    (ha : DE X W a ta) (hb' : DE X W b tb) : DE X W (.BinOp a op b pos) (dOpR c sp ta tb) := by
  have ha1 : PE X a (lft X.K W ta) := ha
  have hb1 : PE X b (lft X.K W tb) := hb'
  refine ⟨fun pins s σ H Q I ⟨σD, G, QD, E, hR, hS, q, hq, hE⟩ => ?_⟩
  refine wpAny_BinOp (binT ha1 hb1 (R := fun x y H2 => ∃ aa dx fs i, y = .ref aa ∧ x = .int i ∧ H2 aa = some (.ins C dx fs) ∧ lsp X.K sp [y, x] H2 Q (WE W σ)) I ?_ fun v u s2 x y H2 I2 rx ry ⟨aa, dx, fs, i, ex, ey, ea, hl⟩ => ?_)
  · refine ⟨σD, G, _, E, hR, hS, q, fun v1 H1 d1 G1 s1 r1 p1 q1 => ?_, hE⟩
    refine ⟨σD, G1, _, E, r1, hS.mono s1, q1, fun v2 H2 d2 G2 s2 r2 p2 ⟨ns, ds, i, hi, ei, q2⟩ => ?_, hE.mono s1⟩
    have p1' := p1.mono s2
    obtain ⟨aa, C1, dx, xs, e1, h1, h2, _, _⟩ := hi.of r2 p2
    rw [hC] at h1; cases h1
    subst ei
    have ev : v1 = .int i := by cases p1; rfl
    exact ⟨aa, dx, _, i, e1, ev, h2, [d2, .int i], G2, QD, E, r2, .cons p2 (.cons p1' .nil), q2, hq.mono (s1.trans s2), fun xd cls d' H' G' s' r' p' z' => hE _ _ _ _ _ ((s1.trans s2).trans s') r' p' z'⟩
  · subst ex; subst ey
    obtain rfl : u = Value.ref aa := ry
    obtain ⟨t, rfl⟩ := rx
    obtain ⟨m', fr⟩ := fr_of I2
    obtain ⟨ox, od, J, hp⟩ := inst_of I2 ea
    obtain ⟨g, hgg⟩ := hi.hs
    obtain ⟨ro, hro⟩ := hi.ri
    refine rbin_K (T := "int") fr I2.ok.mod.kin J rfl hi.sl hsf hgg (by rw [em]; exact hm.at_) hm.fn hi.fi hro (by rw [hi.nq]; rfl) hi.mr (hi.dc J hp) (wpAny_mono (run_call F hg hr hb tk I2 (us := [.ref aa, .int i t]) (vs := [.ref aa, .int i]) (.cons (vref aa) (.cons ⟨_, rfl⟩ .nil)) hl) (fun r s' hr' => ?_) fun _ _ z => z)
    obtain ⟨w, H', J', rw', q'⟩ := hr'
    cases r <;> first | exact ⟨w, H', J', rw', q'⟩ | (cases w <;> first | exact (nomatch rw') | (obtain ⟨_, z⟩ := rw'; cases z))
end
end DL

namespace DL
open PySem PySem.Spec PyProof.Rows L2
open PySem.W (Frag)
section
variable {X : Cx} {W : WX} {a b : Expr} {pos : Pos} {ta tb : TED} {k : Nat} {f C : Addr} {fd : FuncData} {ps : List Str} {sp : SpD}
/-! ### -o of an own class -/
def dNegO (c : Str) (sp : SpD) (ta : TED) : TED := fun σ G Q E => ta σ G (fun x G1 => ∃ ns ds, InsD G1 x c ns ds ∧ sp [x] G1 Q E) E
theorem de_negO {c : Str} (hC : gaddr X.K c = some C) (hm : Meth X.K C "__neg__" f) (F : FnG X.prog X.w X.K X.mg X.base k f fd ps sp) (hg : X.A.guards = some []) (hr : Room k X.A) (hb : Binds X.K fd ps []) (tk : Takes X W)
    (ha : DE X W a ta) : DE X W (.UnaryOp .USub a pos) (dNegO c sp ta) := by
  have ha1 : PE X a (lft X.K W ta) := ha
  refine ⟨fun pins s σ H Q I ⟨σD, G, QD, E, hR, hS, q, hq, hE⟩ => ?_⟩
  refine wpAny_UnaryOp (thn (ha1.run pins s σ H (fun x H1 => ∃ aa dx fs, x = .ref aa ∧ H1 aa = some (.ins C dx fs) ∧ lsp X.K sp [x] H1 Q (WE W σ)) I ?_) fun v s1 ⟨x, H1, I1, rx, aa, dx, fs, ex, ea, hl⟩ => ?_)
  · refine ⟨σD, G, _, E, hR, hS, q, fun v1 H1 d1 G1 s1 r1 p1 ⟨ns, ds, hi, q1⟩ => ?_, hE⟩
    obtain ⟨aa, C1, dx, xs, e1, h1, h2, _, _⟩ := hi.of r1 p1
    rw [hC] at h1; cases h1
    exact ⟨aa, dx, _, e1, h2, [d1], G1, QD, E, r1, .cons p1 .nil, q1, hq.mono s1, fun xd cls d' H' G' s' r' p' z' => hE _ _ _ _ _ (s1.trans s') r' p' z'⟩
  · subst ex
    obtain rfl : v = Value.ref aa := rx
    obtain ⟨m', fr⟩ := fr_of I1
    obtain ⟨ox, od, J, _⟩ := inst_of I1 ea
    exact PySem.W.ksp_neg fr I1.ok.mod.kin J hm.at_ hm.fn (run_call F hg hr hb tk I1 (us := [.ref aa]) (vs := [.ref aa]) (.cons (vref aa) .nil) hl)
theorem st_negO {σ : SD} {G : HH} {Q : QD} {E : ED} {c : Str} (h : ta σ G (fun x G1 => ∃ ns ds, InsD G1 x c ns ds ∧ sp [x] G1 Q E) E) : dNegO c sp ta σ G Q E := h
/-! ### o[i] of an own class, that raises nothing -/
def rGetO (c : Str) (sp : SpD) : D → D → HH → QD → Prop := fun x y G Q => ∃ ns ds, InsD G x c ns ds ∧ sp [x, y] G Q (fun _ _ => False)
theorem ixGetO {c : Str} {C : Addr} (hC : gaddr X.K c = some C) (hm : Meth X.K C "__getitem__" f) (hf : PySem.W.fnIn X.K f = true) (F : FnG X.prog X.w X.K X.mg X.base k f fd ps sp) (hg : X.A.guards = some []) (hr : Room (k + 1) X.A) (hb : Binds X.K fd ps [])
    (ha : DE X W a ta) (hb' : DE X W b tb) (hsl : ∀ (o : Addr) (i : Value), subscripted b true (.ref o) i = runValue (.builtin "lifetime.subscript" ⟨[.ref o, i], []⟩) := by intros; with_unfolding_all rfl) : DE X W (.Subscript a b pos) (dOp (rGetO c sp) ta tb) := by
  have ha1 : PE X a (lft X.K W ta) := ha
  have hb1 : PE X b (lft X.K W tb) := hb'
  refine ⟨fun pins s σ H Q I ⟨σD, G, QD, E, hR, hS, q, hq, hE⟩ => ?_⟩
  refine Subscript_ (binT ha1 hb1 (R := fun x y H2 => ∃ aa dx fs, x = .ref aa ∧ H2 aa = some (.ins C dx fs) ∧ lsp X.K sp [x, y] H2 Q E0) I ?_ fun v u s2 x y H2 I2 rx ry ⟨aa, dx, fs, ex, ea, hl⟩ => ?_)
  · refine ⟨σD, G, _, E, hR, hS, q, fun v1 H1 d1 G1 s1 r1 p1 q1 => ?_, hE⟩
    refine ⟨σD, G1, _, E, r1, hS.mono s1, q1, fun v2 H2 d2 G2 s2 r2 p2 ⟨ns, ds, hi, q2⟩ => ?_, hE.mono s1⟩
    have p1' := p1.mono s2
    obtain ⟨aa, C1, dx, xs, e1, h1, h2, _, _⟩ := hi.of r2 p1'
    rw [hC] at h1; cases h1
    exact ⟨aa, dx, _, e1, h2, lsp0 r2 (.cons p1' (.cons p2 .nil)) q2 (hq.mono (s1.trans s2))⟩
  · subst ex
    obtain rfl : v = Value.ref aa := rx
    obtain ⟨m', fr⟩ := fr_of I2
    obtain ⟨ox, od, J, _⟩ := inst_of I2 ea
    exact PySem.W.sub_K fr I2.ok.mod.kin J hm.at_ hf hm.fn (run_at F (guards_in1 hg) hr.in1 I2.env0.in1 hb I2 (us := [.ref aa, u]) (.cons (vref aa) (.cons ry .nil)) hl) (hsl aa u)
theorem st_getO {G : HH} {Q : QD} {c : Str} {x y : D} {ns : List Str} {ds : List D} (hi : InsD G x c ns ds) (h : sp [x, y] G Q (fun _ _ => False)) : rGetO c sp x y G Q := ⟨ns, ds, hi, h⟩
end
/-! ### != of instances without an own __eq__: by identity -/
section
variable {prog : Program} {w : World} {A : Around} {E : Value → Shared → Prop} {s : Shared} {K : Frag} {x y C L : Addr} {h₀ : Heap} {m : Str → Option Value} {ox oy : Obj} {od oe : Option Obj}
open PySem.W (InstAt findIn mroIn looks_findIn looks_mroIn Looks)
theorem check_eq {M : Model} {rest : List Value} {Q : Unit → Shared → Prop} (X : K.In s.heap) (I : InstAt s.heap x ox C od) (hm : mroIn K C (.type "object") = some true)
    (ha : argsOk "object.__eq__" ⟨.ref x :: rest, []⟩) (hq : Q () s) : wpAny M A (checkBuiltinCall "object.__eq__" ⟨.ref x :: rest, []⟩) Q E s := by
  have L0 := I.type (M := M)
  have L1 := looks_mroIn (M := M) X hm
  simp only [checkBuiltinCall, F.cmpKind_eq, F.cmpSplit_eq]
  refine wpAny_bind ?_
  unfold isInstance
  refine wpAny_bind (L0.here (L1.here ?_))
  simp only [Bool.not_true, Bool.false_eq_true, if_false]
  cases hsig : Manifest.signature? "object.__eq__" with
  | none => exact wpAny_pure hq
  | some sig =>
    simp only [argsOk, hsig] at ha
    have h2 : Bind.checkArgs "object.__eq__" sig ⟨.ref x :: rest, []⟩ = pure () := ha
    show wpAny M A (Bind.checkArgs "object.__eq__" sig ⟨.ref x :: rest, []⟩) Q E _
    rw [h2]; exact wpAny_pure hq
theorem special_id {Q : Option Value → Shared → Prop} (X : K.In s.heap) (I : InstAt s.heap x ox C od) (J : InstAt s.heap y oy C oe) (hm : mroIn K C (.type "object") = some true) (he : findIn K (.ref C) "__eq__" = some (some (.builtin "object.__eq__")))
    (h : Q (some (if x = y then .bool true else .notImplemented)) s) : wpAny (model prog w) A (callSpecialIfBound? (.ref x) "__eq__" [.ref y]) Q E s := by
  refine ifBound_bi X I he F.cmp_object.eq (wpAny_call (codeAny_call_builtin F.cmp_object.eq.plain F.cmpEntry_eq (check_eq X I hm (F.cmpArgs_eq _ _) ?_)))
  by_cases hxy : x = y
  · subst hxy
    rw [if_pos rfl] at h
    exact objEq_entry_same h
  · rw [if_neg hxy] at h
    have hc : ox.cls ≠ .type "tuple" := by rw [I.cls]; simp
    obtain ⟨hp, g, d, t, os⟩ := s
    exact objEq_entry_other hxy I.at_ J.at_ hc h
theorem try_ne_id {Q : Option Value → Shared → Prop} (hu : A.units + 1 < cLine) (X : K.In s.heap) (I : InstAt s.heap x ox C od) (J : InstAt s.heap y oy C oe) (hm : mroIn K C (.type "object") = some true) (he : findIn K (.ref C) "__eq__" = some (some (.builtin "object.__eq__")))
    (hn : findIn K (.ref C) "__ne__" = some (some (.builtin "object.__ne__"))) (h : Q (if x = y then some (.bool false) else none) s) : wpAny (model prog w) A (tryCompare (.ref x) "__ne__" (.ref y)) Q E s := by
  unfold tryCompare
  refine wpAny_bind (ifBound_bi X I hn F.cmp_object.ne (wpAny_call (codeAny_call_builtin F.cmp_object.ne.plain F.cmpEntry_ne (check_obj X I hm (F.cmpArgs_ne _ _) ?_))))
  unfold Builtin.«object.__ne__»
  repeat (first | with_reducible refine wpAny_cRoomFor (A := A.in1) hu ?_ | (with_reducible refine special_id X I J hm he ?_) | wp_step)
  by_cases hxy : x = y
  · rw [if_pos hxy] at h ⊢
    repeat wp_step
    exact h
  · rw [if_neg hxy] at h ⊢
    repeat wp_step
    exact h
theorem ne_id {Q : Value → Shared → Prop} (hu : A.units + 1 < cLine) (F0 : Fr h₀ L s.heap m) (X₀ : K.In h₀) (I : InstAt s.heap x ox C od) (J : InstAt s.heap y oy C oe) (hm : mroIn K C (.type "object") = some true) (he : findIn K (.ref C) "__eq__" = some (some (.builtin "object.__eq__")))
    (hn : findIn K (.ref C) "__ne__" = some (some (.builtin "object.__ne__"))) (h : Q (.bool (!decide (x = y))) s) : wpAny (model prog w) A (richCompare .NotEq (.ref x) (.ref y)) Q E s := by
  have X := X₀.keeps F0.keep
  unfold richCompare
  simp only [oneThing_ref]
  refine wpAny_holding (wpAny_bind (wpAny_cRoomFor (by omega) ?_))
  refine wpAny_bind (I.type.here (wpAny_bind (J.type.here ?_)))
  simp only [bne_self_eq_false, Bool.false_eq_true, if_false]
  refine wpAny_bind (wpAny_pure ?_)
  simp only [Bool.false_eq_true, if_false]
  refine wpAny_bind (m := tryCompare (.ref x) _ (.ref y)) (try_ne_id hu X I J hm he hn ?_)
  by_cases hxy : x = y
  · rw [if_pos hxy]
    rw [decide_eq_true hxy] at h
    exact wpAny_pure h
  · rw [if_neg hxy]
    rw [decide_eq_false hxy] at h
    simp only [Bool.not_false, if_true]
    refine wpAny_bind (m := tryCompare (.ref y) _ (.ref x)) (try_ne_id hu X J I hm he hn ?_)
    rw [if_neg (Ne.symm hxy)]
    have hc : ox.cls ≠ .type "tuple" := by rw [I.cls]; simp
    refine wpAny_bind (wpAny_rule (wpAny_bind ?_))
    obtain ⟨hp, g, d, t, os⟩ := s
    exact wpAny_isSame_ref_other hxy I.at_ J.at_ hc (wpAny_pure h)
end
structure IdC (K : Frag) (C : Addr) : Prop where
  mr : PySem.W.mroIn K C (.type "object") = some true
  eq : PySem.W.findIn K (.ref C) "__eq__" = some (some (.builtin "object.__eq__"))
  ne : PySem.W.findIn K (.ref C) "__ne__" = some (some (.builtin "object.__ne__"))
/-- two that may change -/
def rNeId (c : Str) : D → D → HH → QD → Prop := fun x y G Q => ∃ p q ns ds ns' ds', x = .ref p ∧ y = .ref q ∧ G p = some (.ins c ns ds) ∧ G q = some (.ins c ns' ds') ∧ Q (.bl (!decide (p = q))) G
theorem oNeId {X : Cx} {c : Str} {C : Addr} (hC : gaddr X.K c = some C) (hi : IdC X.K C) (hu : X.A.units + 1 < cLine) : OpD X (compareOp .NotEq) (rNeId c) :=
  ⟨fun x y H Q => ∃ a b dx fs dy gs, x = .ref a ∧ y = .ref b ∧ H a = some (.ins C dx fs) ∧ H b = some (.ins C dy gs) ∧ Q (.bl (!decide (a = b))) H, fun pins s σ H x y v u Q I rx ry ⟨a, b, dx, fs, dy, gs, ex, ey, ha, hb, q⟩ => by
    subst ex; subst ey
    obtain rfl : v = Value.ref a := rx
    obtain rfl : u = Value.ref b := ry
    obtain ⟨m, fr⟩ := fr_of I
    obtain ⟨ox, od, J, _⟩ := inst_of I ha
    obtain ⟨oy, oe, J2, _⟩ := inst_of I hb
    show wpAny _ _ (richCompare .NotEq _ _) _ _ _
    exact ne_id hu fr I.ok.mod.kin J J2 hi.mr hi.eq hi.ne ⟨.bl _, H, I, rfl, q⟩, fun x y H Q dx dy G QD hR px py ⟨p, q, ns, ds, ns', ds', ex, ey, g1, g2, h⟩ hq => by
    subst ex; subst ey
    cases px; cases py
    obtain ⟨C1, d1, xs1, h1, h2, _⟩ := hR _ _ g1
    obtain ⟨C2, d2, xs2, k1, k2, _⟩ := hR _ _ g2
    rw [hC] at h1 k1; cases h1; cases k1
    exact ⟨p, q, d1, _, d2, _, rfl, rfl, h2, k2, hq.now hR (.bl _) h⟩⟩
theorem st_neId {p q : Addr} {G : HH} {Q : QD} {c : Str} {ns ns' : List Str} {ds ds' : List D} (h1 : G p = some (.ins c ns ds)) (h2 : G q = some (.ins c ns' ds')) (h : Q (.bl (!decide (p = q))) G) : rNeId c (.ref p) (.ref q) G Q := ⟨p, q, ns, ds, ns', ds', rfl, rfl, h1, h2, h⟩
end DL

namespace DL
open PySem PySem.Spec PyProof.Rows L2
open PySem.W (Frag)
/-! ### zip of two tuples, of two lists -/
def zips (xs ys : List D) : List D := (xs.zip ys).map fun p => .tup [p.1, p.2]
def SqZ (x y : D) (G : HH) (R : List D → (HH → Prop) → HH → Prop) : Prop := (∃ xs ys, x = .tup xs ∧ y = .tup ys ∧ R (zips xs ys) okT G) ∨ ∃ xs ys, LsW G x xs ∧ LsW G y ys ∧ R (zips xs ys) (fun G' => okL x xs G' ∧ okL y ys G') G
def iZpD (t : TAD) : TID := fun σ G R E => t σ G (fun ds G1 => ∃ x y, ds = [x, y] ∧ SqZ x y G1 R) E
theorem zips_get {xs ys : List D} {i : Nat} {d : D} (h : (zips xs ys)[i]? = some d) : ∃ x y, xs[i]? = some x ∧ ys[i]? = some y ∧ d = .tup [x, y] := by
  unfold zips at h
  rw [List.getElem?_map] at h
  cases e : (xs.zip ys)[i]? with
  | none => rw [e] at h; cases h
  | some p =>
    rw [e] at h; cases h
    obtain ⟨h1, h2⟩ := List.getElem?_zip_eq_some.mp e
    exact ⟨p.1, p.2, h1, h2, rfl⟩
theorem zips_len {xs ys : List D} : (zips xs ys).length = min xs.length ys.length := by simp [zips]
theorem pair_new2 {K : Frag} {H : Hp} {G : HH} {T : Addr} {x y : V} {d e : D} (hn : H T = none) (r : RelH K H G) (p : Rp K H G d x) (q : Rp K H G e y) :
    Stp H G (upd H T (.tup [x, y])) G ∧ RelH K (upd H T (.tup [x, y])) G ∧ Rp K (upd H T (.tup [x, y])) G (.tup [d, e]) (.ref T) :=
  have st : Stp H G (upd H T (.tup [x, y])) G := .new hn
  ⟨st, r.new hn, .tup (.inl ⟨upd_same, r.free hn⟩) (.cons (p.mono st) (.cons (q.mono st) .nil))⟩
theorem di_zip {X : Cx} {W : WX} {a b : Expr} {t : TAD} {p pos tpos : Pos} {elts : List Expr} {kk : Nat} (hg : Gl X "zip") (hm : X.mg "zip" = none) (ha : DA X W [a, b] t)
    (hs : starEach [a, b] X.env = (false, eval a X.env) :: starEach [b] X.env := by rfl) (hpl : (backTo pos (starEach [b] X.env)).any (·.1) = false := by rfl) :
    DI X W (.Tuple elts kk tpos) (.Call (.Name "zip" p) [a, b] [] pos) (iZpD t) :=
  PI.imp (RZ.pi_zipA hg hm ha hs hpl) fun σ H R ⟨σD, G, RD, E, hR, hS, q, hr, he⟩ => ⟨σD, G, _, E, hR, hS, q, fun vs H1 ds G1 s r p1 ⟨x, y, ex, z⟩ => by
    subst ex
    obtain ⟨v, v2, rfl, p2, p3⟩ := rps2 p1
    rcases z with ⟨xs, ys, rfl, rfl, z⟩ | ⟨xs, ys, ls, ls2, z⟩
    · cases p2 with
      | @tup b us _ f rr =>
        cases p3 with
        | @tup b2 us2 _ f2 rr2 =>
          refine ⟨b, b2, us, us2, rfl, .inr ⟨f.sq, f2.sq, hr _ _ _ _ _ s r (fun i H2 G2 s2 r2 _ => ⟨fun d hd => ?_, fun hl => ⟨_, _, (f.mono s2).sq, (f2.mono s2).sq, by rw [zips_len] at hl; rw [← rr.length, ← rr2.length]; omega⟩⟩) z⟩⟩
          obtain ⟨y1, y2, hy1, hy2, rfl⟩ := zips_get hd
          obtain ⟨u, hu, pu⟩ := (rr.mono s2).get hy1
          obtain ⟨u2, hu2, pu2⟩ := (rr2.mono s2).get hy2
          refine ⟨⟨_, _, u, u2, (f.mono s2).sq, (f2.mono s2).sq, hu, hu2⟩, fun w H3 ⟨T, y', y2', ew, hn, e3, hy', hy2'⟩ => ?_⟩
          have t := hy' _ (f.mono s2).sq
          have t2 := hy2' _ (f2.mono s2).sq
          rw [hu] at t
          rw [hu2] at t2
          cases t; cases t2
          subst e3; subst ew
          exact pair_new2 hn r2 pu pu2
    · obtain ⟨b, us, rfl, h1, rr⟩ := ls.of r p2
      obtain ⟨b2, us2, rfl, h12, rr2⟩ := ls2.of r p3
      refine ⟨b, b2, us, us2, rfl, .inl ⟨h1, h12, hr _ _ _ _ _ s r (fun i H2 G2 s2 r2 ok2 => ?_) z⟩⟩
      obtain ⟨c, ws, e2, h2, r3⟩ := LsW.of ok2.1 r2 (p2.mono s2)
      obtain ⟨c2, ws2, e22, h22, r32⟩ := LsW.of ok2.2 r2 (p3.mono s2)
      cases e2; cases e22
      refine ⟨fun d hd => ?_, fun hl => ⟨_, _, h2, h22, by rw [zips_len] at hl; rw [← r3.length, ← r32.length]; omega⟩⟩
      obtain ⟨y1, y2, hy1, hy2, rfl⟩ := zips_get hd
      obtain ⟨u, hu, pu⟩ := r3.get hy1
      obtain ⟨u2, hu2, pu2⟩ := r32.get hy2
      refine ⟨⟨_, _, u, u2, h2, h22, hu, hu2⟩, fun w H3 ⟨T, y', y2', ew, hn, e3, hy', hy2'⟩ => ?_⟩
      have t := hy' _ h2
      have t2 := hy2' _ h22
      rw [hu] at t
      rw [hu2] at t2
      cases t; cases t2
      subst e3; subst ew
      exact pair_new2 hn r2 pu pu2, he⟩
section
variable {σ : SD} {G : HH} {E : ED} {t : TAD} {R : List D → (HH → Prop) → HH → Prop}
theorem st_iZp (h : t σ G (fun ds G1 => ∃ x y, ds = [x, y] ∧ SqZ x y G1 R) E) : iZpD t σ G R E := h
theorem st_zpT {xs ys : List D} (h : R (zips xs ys) okT G) : ∃ x y, [D.tup xs, D.tup ys] = [x, y] ∧ SqZ x y G R := ⟨_, _, rfl, .inl ⟨xs, ys, rfl, rfl, h⟩⟩
theorem st_zpL {x y : D} {xs ys : List D} (hl : LsW G x xs) (hk : LsW G y ys) (h : R (zips xs ys) (fun G' => okL x xs G' ∧ okL y ys G') G) : ∃ x' y', [x, y] = [x', y'] ∧ SqZ x' y' G R := ⟨_, _, rfl, .inr ⟨xs, ys, hl, hk, h⟩⟩
end
end DL

namespace DL
open PySem PySem.Spec PyProof.Rows L2
open PySem.W (Frag)
/-! ### name += e of an own class without an __iadd__ -/
section
variable {prog : Program} {w : World} {A : Around} {E : Value → Shared → Prop} {s : Shared} {K : Frag} {x C L f : Addr} {h₀ : Heap} {m : Str → Option Value} {ox : Obj} {od : Option Obj} {b : Value} {cd : ClassData}
open PySem.W (InstAt findIn isFn looks_findIn Looks clsIn looks_clsIn)
theorem aug_K {op : Operator} {Q : Value → Shared → Prop} (F0 : Fr h₀ L s.heap m) (X₀ : K.In h₀) (I : InstAt s.heap x ox C od) (hb : Looks (model prog w) s.heap (typeOf b) (.ref C)) (hcd : clsIn K C = some cd) (hmr : cd.mro = [.ref C, .type "object"])
    (hi : findIn K (.ref C) (dunderI op.info.2) = some none) (ho : findIn K (.type "object") (dunderI op.info.2) = some none)
    (hs : findIn K (.ref C) (PySem.dunder op.info.2) = some (some (.ref f))) (hf : isFn K (.ref f) = true)
    (h : wpAny (model prog w) A (call (.ref f) [.ref x, b]) (PySem.W.CmpBack Q) E s) : wpAny (model prog w) A (inplaceOp op (.ref x) b) Q E s := by
  have X := X₀.keeps F0.keep
  have one := PySem.W.ksp_try (A := A) X I hs hf h
  have L1 : Looks (model prog w) s.heap (fillsInplaceSlot (.ref C) op.info.2 (op == .Add)) false := by
    intro A' Q' E' s' k q
    have Lm : Looks (model prog w) s.heap (mroOf (.ref C)) cd.mro := (looks_clsIn X hcd).andThen (f := fun cd => pure cd.mro) .now
    have Lm' := Lm.keeps k
    have X' : K.In s'.heap := X.keeps k
    have La : Looks (model prog w) s'.heap (typeLookup (.ref C) (dunderI op.info.2)) none := looks_findIn X' hi
    have Lb : Looks (model prog w) s'.heap (typeLookup (.type "object") (dunderI op.info.2)) none := looks_findIn X' ho
    unfold fillsInplaceSlot
    refine wpAny_bind (Lm'.here ?_)
    rw [hmr, List.anyM_cons]
    refine wpAny_bind (wpAny_bind (La.here (wpAny_pure ?_)))
    try dsimp only
    rw [List.anyM_cons]
    refine wpAny_bind (wpAny_bind (Lb.here (wpAny_pure ?_)))
    try dsimp only
    exact wpAny_pure q
  unfold inplaceOp
  refine wpAny_holding (wpAny_bind (I.type.here (wpAny_bind (L1.here ?_))))
  simp only [Bool.false_eq_true, if_false]
  refine wpAny_bind ?_
  unfold binaryOp1
  refine wpAny_bind (I.type.here (wpAny_bind (hb.here (wpAny_bind ((PySem.W.fills_K X hcd hmr hs).here ?_)))))
  simp only [beq_self_eq_true, if_true]
  refine wpAny_bind (wpAny_pure ?_)
  simp only [Bool.and_false, Bool.false_eq_true, if_false, Bool.false_and]
  refine wpAny_bind (wpAny_pure ?_)
  simp only [Bool.false_eq_true, if_false]
  refine wpAny_bind (m := tryMethod (.ref x) _ b) (wpAny_mono one (fun r s' z => ?_) fun _ _ e => e)
  obtain ⟨v, rfl, hq⟩ := z
  exact wpAny_pure (wpAny_pure hq)
end
structure AugC (K : Frag) (C : Addr) (nm : String) : Prop where
  cd : ∃ cd, PySem.W.clsIn K C = some cd ∧ cd.mro = [.ref C, .type "object"]
  hi : PySem.W.findIn K (.ref C) (dunderI nm) = some none
  ho : PySem.W.findIn K (.type "object") (dunderI nm) = some none
section
variable {X : Cx} {W : WX} {e : Expr} {pos pos' : Pos} {te : TED} {k : Nat} {f C : Addr} {fd : FuncData} {ps : List Str} {sp : SpD}
def dAugO (i : Nat) (c : Str) (sp : SpD) (te : TED) : TSD := fun D σ G => ∃ x, σ[i]? = some (some x) ∧ te σ G (fun y G1 => ∃ ns ds ns' ds', InsD G1 x c ns ds ∧ InsD G1 y c ns' ds' ∧ sp [x, y] G1 (fun z G2 => D.nx (σ.set i (some z)) G2) (fun e G2 => D.ex e σ G2)) (fun e G1 => D.ex e σ G1)
theorem ds_augO {c x : Str} {i : Nat} {op : Operator} {m : Str} (hN : X.N.Nodup) (hi : X.N[i]? = some x) (hx : Loc X.env.scope x) (hC : gaddr X.K c = some C) (hm : Meth X.K C m f) (em : PySem.dunder op.info.2 = m) (ha : AugC X.K C op.info.2) (F : FnG X.prog X.w X.K X.mg X.base k f fd ps sp) (hg : X.A.guards = some []) (hr : Room k X.A) (hb : Binds X.K fd ps []) (tk : Takes X W)
    (he : DE X W e te) (hf : X.fn x = true ∨ X.env.scope.names.lookup x = some .local := by first | exact .inl rfl | exact .inr rfl | assumption) : DS X W (.AugAssign (.Name x pos') op e pos) (dAugO i c sp te) := by
  have he1 : PE X e (lft X.K W te) := he
  refine ⟨fun pins s σ H D I ⟨σD, G, DD, hR, hS, ⟨x0, ex0, q⟩, hE⟩ => ?_⟩
  obtain ⟨v, e1, pv⟩ := hS.at_ i x0 ex0
  obtain ⟨m', hn, hl⟩ := I.loc
  have vis : Vis X.env.scope x := by rcases hx with k | k; exact .inl k; exact .inr (.inl k)
  obtain ⟨u, r, l⟩ := hl i x v hi e1 vis
  refine wpAny_AugAssign_Name ?_
  have go : wpAny (model X.prog X.w) X.A (eval e X.env) (fun w s₂ => wpAny (model X.prog X.w) X.A (inplaceOp op u w) (fun r s₃ => wpAny (model X.prog X.w) X.A (storeName X.env x r) (fun _ => SP X pins D .next) X.xe s₃) X.xe s₂) X.xe s := by
    refine thn (he1.run pins s σ H (fun y H1 => ∃ aa dx fs bb dy gs, v = .ref aa ∧ y = .ref bb ∧ H1 aa = some (.ins C dx fs) ∧ H1 bb = some (.ins C dy gs) ∧ lsp X.K sp [v, y] H1 (fun z H2 => D.nx (σ.set i (some z)) H2) (WE W σ)) I ?_) fun w s1 ⟨y, H1, I1, r1, aa, dx, fs, bb, dy, gs, ex, ey, ea, eb, hl1⟩ => ?_
    · refine ⟨σD, G, _, _, hR, hS, q, fun v1 H1 d1 G1 s1 r1 p1 ⟨ns, ds, ns', ds', hi1, hj1, q1⟩ => ?_, hE.ex.at hS⟩
      have pv' := pv.mono s1
      obtain ⟨aa, C1, dx, xs, a1, h1, h2, _, _⟩ := hi1.of r1 pv'
      obtain ⟨bb, C2, dy, ys, a2, k1, k2, _, _⟩ := hj1.of r1 p1
      rw [hC] at h1 k1; cases h1; cases k1
      exact ⟨aa, dx, _, bb, dy, _, a1, a2, h2, k2, [x0, d1], G1, _, _, r1, .cons pv' (.cons p1 .nil), q1, fun z H2 dz G2 s2 r2 p2 q2 => hE.nx _ _ _ _ (s1.trans s2) r2 (((hS.mono s1).mono s2).set i p2) q2, fun xd cls d' H' G' s' r' p' z' => hE.ex _ _ _ _ _ _ _ (s1.trans s') r' ((hS.mono s1).mono s') p' z'⟩
    · subst ex; subst ey
      obtain rfl : u = Value.ref aa := r
      obtain rfl : w = Value.ref bb := r1
      obtain ⟨m2, fr⟩ := fr_of I1
      obtain ⟨ox, od, J, _⟩ := inst_of I1 ea
      obtain ⟨oy, oe, J2, _⟩ := inst_of I1 eb
      obtain ⟨cd, hcd, hmr⟩ := ha.cd
      refine aug_K fr I1.ok.mod.kin J J2.type hcd hmr ha.hi ha.ho (by rw [em]; exact hm.at_) hm.fn (wpAny_mono (run_call F hg hr hb tk I1 (us := [.ref aa, .ref bb]) (vs := [.ref aa, .ref bb]) (.cons (vref aa) (.cons (vref bb) .nil)) hl1) (fun r s' hr' => ?_) fun _ _ z => z)
      obtain ⟨w, H', J', rw', q'⟩ := hr'
      have fin : wpAny (model X.prog X.w) X.A (storeName X.env x r) (fun _ => SP X pins D .next) X.xe s' := store_ok J' hN hi hx rw' (fun s3 I3 => ⟨_, H', I3, q'⟩) hf
      cases r <;> first | exact fin | (cases w <;> first | exact (nomatch rw') | (obtain ⟨_, z⟩ := rw'; cases z))
  rcases l with ⟨hk, hm⟩ | ⟨hk, c, hc, hcell⟩
  · exact wpAny_loadName_local I.ok.kind hk hn hm go
  · rcases hk with hk | hk
    · exact wpAny_loadName_cell I.ok.kind hk hc hcell go
    · rcases hx with k | k
      · have : X.env.scope.names.lookup x = some .free := hk
        rw [k] at this; cases this
      · have : X.env.scope.names.lookup x = some .free := hk
        rw [k] at this; cases this
end
section
variable {σ : SD} {G : HH} {D' : EndsD} {te : TED} {i : Nat} {c : Str} {sp : SpD}
theorem st_augO {x : D} (h1 : GetAt σ i x) (h : te σ G (fun y G1 => ∃ ns ds ns' ds', InsD G1 x c ns ds ∧ InsD G1 y c ns' ds' ∧ sp [x, y] G1 (fun z G2 => D'.nx (σ.set i (some z)) G2) (fun e G2 => D'.ex e σ G2)) (fun e G1 => D'.ex e σ G1)) : dAugO i c sp te D' σ G := ⟨x, h1.at, h⟩
end
end DL

namespace DL
open PySem PySem.Spec PyProof.Rows L2
open PySem.W (Frag)
/-! ### list(range(..)) -/
section
variable {X : Cx} {W : WX} {a b : Expr} {ta tb : TED} {p pos p2 pos2 : Pos}
theorem rps_rg {K : Frag} {H : Hp} {G : HH} (lo hi : Int) : Rps K H G (rgItems lo (hi - lo).toNat) (rgV lo hi) := by
  unfold rgItems rgV
  generalize List.range (hi - lo).toNat = l
  induction l with
  | nil => exact .nil
  | cons i l ih => exact .cons (.int _) ih
def LsR (fr : Bool) (lo hi : Int) (G : HH) (Q : QD) : Prop := RgOk lo hi ∧ (if fr = true then Q (.lst (rgItems lo (hi - lo).toNat)) G else ∀ p, G p = none → Q (.ref p) (gput G p (.lst (rgItems lo (hi - lo).toNat))))
def dLsR1 (fr : Bool) (ta : TED) : TED := fun σ G Q E => ta σ G (fun x G1 => ∃ n, x = .int n ∧ LsR fr 0 n G1 Q) E
def dLsR2 (fr : Bool) (ta tb : TED) : TED := fun σ G Q E => ta σ G (fun x G1 => tb σ G1 (fun y G2 => ∃ i j, x = .int i ∧ y = .int j ∧ LsR fr i j G2 Q) E) E
theorem LsR.fin {K : Frag} {fr : Bool} {lo hi : Int} {H : Hp} {G : HH} {Q : VK} {QD : QD} (hR : RelH K H G) (hq : Ct K H G Q QD) (h : LsR fr lo hi G QD) : RgOk lo hi ∧ ∀ q, H q = none → Q (.ref q) (upd H q (.lst (rgV lo hi))) := by
  obtain ⟨ok, h⟩ := h
  refine ⟨ok, fun q hn => ?_⟩
  cases fr with
  | true =>
    rw [if_pos rfl] at h
    exact hq.lst hR hn (rps_rg lo hi) h
  | false =>
    rw [if_neg Bool.false_ne_true] at h
    have s1 : Stp H G (upd H q (.lst (rgV lo hi))) (gput G q (.lst (rgItems lo (hi - lo).toNat))) := .newM hn
    exact hq _ _ _ _ s1 (hR.newM hn ⟨_, upd_same, rps_rg lo hi⟩) (.ref q) (h q (hR.free hn))
theorem de_lsR1 (hc : X.calm = true) (hg : Gl X "list") (hm : X.mg "list" = none) (hg2 : Gl X "range") (hm2 : X.mg "range" = none) (fr : Bool) (ha : DE X W a ta) (na : starEach [a] X.env = (false, eval a X.env) :: starEach [] X.env := by rfl)
    (na2 : starEach [.Call (.Name "range" p2) [a] [] pos2] X.env = (false, eval (.Call (.Name "range" p2) [a] [] pos2) X.env) :: starEach [] X.env := by rfl) :
    DE X W (.Call (.Name "list" p) [.Call (.Name "range" p2) [a] [] pos2] [] pos) (dLsR1 fr ta) :=
  PE.imp (pe_listRg hc hg hm (prg_1 hg2 hm2 ha na) na2) fun σ H Q ⟨σD, G, QD, E, hR, hS, q, hq, hE⟩ =>
    ⟨σD, G, _, E, hR, hS, q, fun v1 H1 d1 G1 s1 r1 p1 ⟨n, en, h⟩ => by
      subst en; cases p1
      exact ⟨n, rfl, h.fin r1 (hq.mono s1)⟩, hE⟩
theorem de_lsR2 (hc : X.calm = true) (hg : Gl X "list") (hm : X.mg "list" = none) (hg2 : Gl X "range") (hm2 : X.mg "range" = none) (fr : Bool) (ha : DE X W a ta) (hb : DE X W b tb) (na : starEach [a, b] X.env = (false, eval a X.env) :: starEach [b] X.env := by rfl)
    (na1 : starEach [b] X.env = (false, eval b X.env) :: starEach [] X.env := by rfl) (hpl : (backTo pos2 (starEach [b] X.env)).any (·.1) = false := by rfl)
    (na2 : starEach [.Call (.Name "range" p2) [a, b] [] pos2] X.env = (false, eval (.Call (.Name "range" p2) [a, b] [] pos2) X.env) :: starEach [] X.env := by rfl) :
    DE X W (.Call (.Name "list" p) [.Call (.Name "range" p2) [a, b] [] pos2] [] pos) (dLsR2 fr ta tb) :=
  PE.imp (pe_listRg hc hg hm (prg_2 hg2 hm2 ha hb na na1 hpl) na2) fun σ H Q ⟨σD, G, QD, E, hR, hS, q, hq, hE⟩ => by
    refine ⟨σD, G, _, E, hR, hS, q, fun v1 H1 d1 G1 s1 r1 p1 q1 => ?_, hE⟩
    refine ⟨σD, G1, _, E, r1, hS.mono s1, q1, fun v2 H2 d2 G2 s2 r2 p2 ⟨i, j, e1, e2, h⟩ => ?_, hE.mono s1⟩
    subst e1; subst e2; cases p1; cases p2
    exact ⟨i, j, rfl, rfl, h.fin r2 (hq.mono (s1.trans s2))⟩
end
section
variable {σ : SD} {G : HH} {Q : QD} {E : ED} {ta tb : TED}
theorem st_lsR1 {fr : Bool} (h : ta σ G (fun x G1 => ∃ n, x = .int n ∧ LsR fr 0 n G1 Q) E) : dLsR1 fr ta σ G Q E := h
theorem st_lsR2 {fr : Bool} (h : ta σ G (fun x G1 => tb σ G1 (fun y G2 => ∃ i j, x = .int i ∧ y = .int j ∧ LsR fr i j G2 Q) E) E) : dLsR2 fr ta tb σ G Q E := h
theorem st_lsRq {n : Int} {fr : Bool} (h : LsR fr 0 n G Q) : ∃ m, D.int n = .int m ∧ LsR fr 0 m G Q := ⟨_, rfl, h⟩
theorem st_lsRm {n : Nat} (hn : n ≤ sizeLine) (h : ∀ p, G p = none → Q (.ref p) (gput G p (.lst (rgItems 0 n)))) : LsR false 0 (n : Int) G Q := by
  rw [sizeLine_eq] at hn
  refine ⟨⟨by omega, by omega, by omega, by omega, by omega⟩, ?_⟩
  rw [if_neg Bool.false_ne_true]
  rw [show ((n : Int) - 0).toNat = n by omega]
  exact h
theorem st_lsRf {n : Nat} (hn : n ≤ sizeLine) (h : Q (.lst (rgItems 0 n)) G) : LsR true 0 (n : Int) G Q := by
  rw [sizeLine_eq] at hn
  refine ⟨⟨by omega, by omega, by omega, by omega, by omega⟩, ?_⟩
  rw [if_pos rfl]
  rw [show ((n : Int) - 0).toNat = n by omega]
  exact h
end
end DL

namespace DL
open PySem PySem.Spec PyProof.Rows L2
open PySem.W (Frag)
/-! ### a statement that is never reached -/
def dNever : TSD := fun _ _ _ => False
theorem ds_never {X : Cx} {W : WX} {st : Stmt} : DS X W st dNever := ⟨fun _ _ _ _ _ _ ⟨_, _, _, _, _, q, _⟩ => q.elim⟩
end DL

namespace DL
open PySem PySem.Spec PyProof.Rows L2
open PySem.W (Frag)
/-! ### xs[i:j:k], xs a list -/
def pik {α : Type} (xs : List α) (lo hi st : Option Int) : List α := (sliceRange (sliceBounds lo hi st xs.length).1 (sliceBounds lo hi st xs.length).2.1 (sliceBounds lo hi st xs.length).2.2).filterMap (xs[·]?)
theorem vals_pick {vs : List V} {us : List Value} (r : Vals vs us) (l : List Nat) : Vals (l.filterMap (vs[·]?)) (l.filterMap (us[·]?)) := by
  induction l with
  | nil => exact .nil
  | cons i l ih =>
    have hl := r.length
    simp only [List.filterMap_cons]
    by_cases hi : i < vs.length
    · have hi2 : i < us.length := by omega
      rw [List.getElem?_eq_getElem hi, List.getElem?_eq_getElem hi2]
      refine .cons ?_ ih
      obtain ⟨v, e1, e2⟩ := r.get (i := i) (x := vs[i]) (List.getElem?_eq_getElem hi)
      rw [List.getElem?_eq_getElem hi2] at e1
      cases e1
      exact e2
    · rw [List.getElem?_eq_none (by omega), List.getElem?_eq_none (by omega)]
      exact ih
theorem Rps.pickL {K H G ds vs} (r : Rps K H G ds vs) (l : List Nat) : Rps K H G (l.filterMap (ds[·]?)) (l.filterMap (vs[·]?)) := by
  induction l with
  | nil => exact .nil
  | cons i l ih =>
    have hl := r.length
    simp only [List.filterMap_cons]
    by_cases hi : i < ds.length
    · have hi2 : i < vs.length := by omega
      rw [List.getElem?_eq_getElem hi, List.getElem?_eq_getElem hi2]
      refine .cons ?_ ih
      obtain ⟨v, e1, e2⟩ := r.get (i := i) (d := ds[i]) (List.getElem?_eq_getElem hi)
      rw [List.getElem?_eq_getElem hi2] at e1
      cases e1
      exact e2
    · rw [List.getElem?_eq_none (by omega), List.getElem?_eq_none (by omega)]
      exact ih
def tSl3 (K : Frag) (te : TE) (tl th ts : TO) : TE := fun σ H Q => te σ H fun x H1 => tl σ H1 fun l H2 => th σ H2 fun u H3 => ts σ H3 fun st H4 => ∃ a xs, x = .ref a ∧ SqL K H4 a xs ∧ st ≠ some 0 ∧ (pik xs l u st).length ≤ sizeLine ∧ ∀ p, H4 p = none → Q (.ref p) (upd H4 p (.lst (pik xs l u st)))
section
variable {X : Cx} {W : WX} {e : Expr} {te : TE} {lo hi : Option Expr} {st : Expr} {tl th ts : TO} {pos p2 : Pos}
theorem pe_sl3 (he : PE X e te) (hl : PO X lo tl) (hu : PO X hi th) (hst : PO X (some st) ts) : PE X (.Subscript e (.Slice lo hi (some st) p2) pos) (tSl3 X.K te tl th ts) := by
  refine ⟨fun pins s σ H Q I h => ?_⟩
  refine Subscript_ (thn (he.run pins s σ H _ I h) fun v s1 ⟨x, H1, I1, r1, q1⟩ => ?_)
  refine wpAny_Slice (thn (hl.run pins s1 σ H1 _ I1 q1) fun vl s2 ⟨l, H2, I2, pl, q2⟩ => thn (hu.run pins s2 σ H2 _ I2 q2) fun vu s3 ⟨u, H3, I3, pu, q3⟩ => thn (hst.run pins s3 σ H3 _ I3 q3) fun vs s4 ⟨o, H4, I4, ps, q4⟩ => ?_)
  obtain ⟨a, xs, ex, hx, h0, hz4, q⟩ := q4
  subst ex
  cases r1
  have I5 : Inv X pins σ H4 { s4 with heap := s4.heap.push { cls := .type "slice", data := .fields #[vl, vu, vs] } } := I4.kept (t' := s4.toks) fun b ob q => Heap.get?_push_of_some _ q
  obtain ⟨its, r, ht, hz⟩ := I5.list hx
  have hlen := r.length
  show wpAny (model X.prog X.w) X.A (subscriptTail e (.Slice lo hi (some st) p2) (.ref a) (.ref s4.heap.objs.size)) (EP X pins σ Q) X.xe { s4 with heap := s4.heap.push { cls := .type "slice", data := .fields #[vl, vu, vs] } }
  refine tail_any (ops := [.ref a, .ref s4.heap.objs.size]) ht.isList.typeIs (PySem.slot_list_getitem.lookup) ?_ (by with_unfolding_all rfl)
  refine wpAny_getItem_list_slice ht.isList (Heap.IsSliceOf.new _ vl vu vs) pl pu ps h0 ?_ (by rw [List.size_toArray]; omega)
  have ep : slicePick its.toArray l u o = (pik its l u o).toArray := by
    unfold slicePick pik
    simp
  rw [ep]
  have rp : Vals (pik xs l u o) (pik its l u o) := by
    have := vals_pick r (sliceRange (sliceBounds l u o xs.length).1 (sliceBounds l u o xs.length).2.1 (sliceBounds l u o xs.length).2.2)
    unfold pik
    rw [← hlen]
    exact this
  refine ⟨.ref _, _, I5.laid (t' := s4.toks) (o := .lst (pik xs l u o)) (fun b ob q => Heap.get?_push_of_some _ q) (Nat.le_refl _) ?_, rfl, q _ (I5.hok.fresh (Nat.le_refl _))⟩
  exact ⟨hz4, _, 0, rp, Heap.get?_push_size _ rfl⟩
end
section
variable {X : Cx} {W : WX} {a b c : Expr} {ta tb tc : TED} {lo hi : Option Expr} {st : Expr} {tl th ts : TOD} {p pos p2 pos2 : Pos}
def dSl3 (ta : TED) (tl th ts : TOD) : TED := fun σ G Q E => ta σ G (fun x G1 => tl σ G1 (fun lo G2 => th σ G2 (fun hi G3 => ts σ G3 (fun st G4 => ∃ xs, LsW G4 x xs ∧ st ≠ some 0 ∧ (pik xs lo hi st).length ≤ sizeLine ∧ Q (.lst (pik xs lo hi st)) G4) E) E) E) E
theorem Rps.pik {K H G ds vs} (r : Rps K H G ds vs) (l u o : Option Int) : Rps K H G (DL.pik ds l u o) (DL.pik vs l u o) := by
  unfold DL.pik
  rw [r.length]
  exact r.pickL _
theorem de_sl3 (ha : DE X W a ta) (hl : DO X W lo tl) (hh : DO X W hi th) (hst : DO X W (some st) ts) : DE X W (.Subscript a (.Slice lo hi (some st) p2) pos) (dSl3 ta tl th ts) :=
  PE.imp (pe_sl3 ha hl hh hst) fun σ H Q ⟨σD, G, QD, E, hR, hS, q, hq, he⟩ => by
    refine ⟨σD, G, _, E, hR, hS, q, fun v1 H1 d1 G1 s1 r1 p1 q1 => ?_, he⟩
    refine ⟨σD, G1, _, E, r1, hS.mono s1, q1, fun o2 H2 G2 s2 r2 q2 => ?_, he.mono s1⟩
    refine ⟨σD, G2, _, E, r2, hS.mono (s1.trans s2), q2, fun o3 H3 G3 s3 r3 q3 => ?_, he.mono (s1.trans s2)⟩
    refine ⟨σD, G3, _, E, r3, hS.mono ((s1.trans s2).trans s3), q3, fun o4 H4 G4 s4 r4 ⟨xs, ls, h0, hz, q4⟩ => ?_, he.mono ((s1.trans s2).trans s3)⟩
    have p4 := ((p1.mono s2).mono s3).mono s4
    obtain ⟨ad, vs, rfl, hL, rr⟩ := ls.of r4 p4
    refine ⟨ad, vs, rfl, hL, h0, by rw [← (rr.pik _ _ _).length]; exact hz, fun pp hp => ?_⟩
    exact (hq.mono (((s1.trans s2).trans s3).trans s4)).lst r4 hp (rr.pik _ _ _) q4
end
section
variable {σ : SD} {G : HH} {E : ED} {ta : TED} {tl th ts : TOD} {Q : QD} {x : D} {xs : List D} {lo hi st : Option Int}
theorem st_sl3 (h : ta σ G (fun x G1 => tl σ G1 (fun lo G2 => th σ G2 (fun hi G3 => ts σ G3 (fun st G4 => ∃ xs, LsW G4 x xs ∧ st ≠ some 0 ∧ (pik xs lo hi st).length ≤ sizeLine ∧ Q (.lst (pik xs lo hi st)) G4) E) E) E) E) : dSl3 ta tl th ts σ G Q E := h
theorem st_sl3q {P : List D → Prop} (hx : LsW G x xs) (h0 : st ≠ some 0) (hz : (pik xs lo hi st).length ≤ sizeLine) (h : P xs) : ∃ ys, LsW G x ys ∧ st ≠ some 0 ∧ (pik ys lo hi st).length ≤ sizeLine ∧ P ys := ⟨xs, hx, h0, hz, h⟩
end
/-! ### range(i, j, k) -/
def rgItemsC (lo c : Int) (n : Nat) : List D := (List.range n).map fun i : Nat => D.int (lo + (i : Int) * c)
theorem itR_rngC {K H G lo c n} : ItR K H G (Itc lo c n) (rgItemsC lo c n) okT := fun i H2 G2 s2 r2 _ => ⟨fun d hd => by
    have hi : i < n := by
      have := (List.getElem?_eq_some_iff.mp hd).1
      simpa [rgItemsC] using this
    refine ⟨hi, fun y H3 ⟨hy, e3⟩ => ?_⟩
    have e : d = .int (lo + (i : Int) * c) := by
      simp [rgItemsC, hi] at hd
      exact hd.symm
    first
      | (rw [e3, e, hy]; exact ⟨Stp.refl, r2, .int _⟩)
      | (rw [hy, e, e3]; exact ⟨Stp.refl, r2, .int _⟩), fun hl => by
    have : n ≤ i := by simpa [rgItemsC] using hl
    exact this⟩
/-- counted up, by steps of k -/
def upN (i j k : Int) : Nat := if i < j then ((j - i - 1) / k + 1).toNat else 0
theorem rgc_up {i j k : Int} (hi : -(2 ^ 61) ≤ i) (hi' : i < 2 ^ 61) (hj : -(2 ^ 61) ≤ j) (hj' : j < 2 ^ 61) (hk : 0 < k) (hk' : k < 1073741824) : RgC i j k (upN i j k) := by
  have e : Builtin.Range.rangeSize i j k = (upN i j k : Int) := by
    unfold Builtin.Range.rangeSize upN
    rw [if_pos hk]
    split
    · have : 0 ≤ (j - i - 1) / k := Int.ediv_nonneg (by omega) (by omega)
      omega
    · rfl
  have hn : (upN i j k : Int) ≤ 2 ^ 62 := by
    unfold upN
    split
    · have h1 : (j - i - 1) / k ≤ j - i - 1 := Int.ediv_le_self _ (by omega)
      have h0 : 0 ≤ (j - i - 1) / k := Int.ediv_nonneg (by omega) (by omega)
      omega
    · decide
  refine ⟨by omega, by omega, ?_, e⟩
  unfold Builtin.Range.small
  rw [e]
  simp only [Builtin.Range.rangeFitsLong, Bool.and_eq_true, Bool.or_eq_true, decide_eq_true_eq, beq_iff_eq, if_pos hk]
  refine ⟨⟨⟨⟨⟨by omega, by omega⟩, ⟨by omega, by omega⟩⟩, ⟨by omega, by omega⟩⟩, ⟨by omega, by omega⟩⟩, Or.inr ⟨by omega, by omega⟩⟩
section
variable {X : Cx} {W : WX} {tg a b c : Expr} {t : TAD} {p pos p2 pos2 : Pos}
def iRngD3 (t : TAD) : TID := fun σ G R E => t σ G (fun ds G1 => ∃ i j k : Int, ds = [.int i, .int j, .int k] ∧ (-(2 ^ 61) ≤ i ∧ i < 2 ^ 61 ∧ -(2 ^ 61) ≤ j ∧ j < 2 ^ 61 ∧ 0 < k ∧ k < 1073741824) ∧ R (rgItemsC i k (upN i j k)) okT G1) E
theorem di_rng3 (hg : Gl X "range") (hm : X.mg "range" = none) (ha : DA X W [a, b, c] t) (hs : starEach [a, b, c] X.env = (false, eval a X.env) :: starEach [b, c] X.env := by rfl) (hpl : (backTo pos (starEach [b, c] X.env)).any (·.1) = false := by rfl) :
    DI X W tg (.Call (.Name "range" p) [a, b, c] [] pos) (iRngD3 t) :=
  PI.imp (pi_range3 hg hm ha hs hpl) fun σ H R ⟨σD, G, RD, E, hR, hS, q, hr, he⟩ => ⟨σD, G, _, E, hR, hS, q, fun vs H1 ds G1 s r p ⟨i, j, k, e, ⟨l1, l2, l3, l4, l5, l6⟩, z⟩ => by
    subst e
    obtain ⟨v, w, u, rfl, p1, p2, p3⟩ := rps3 p
    cases p1; cases p2; cases p3
    exact ⟨i, j, k, _, rfl, rgc_up l1 l2 l3 l4 l5 l6, hr _ _ _ _ _ s r itR_rngC z⟩, he⟩
/-! list(range(i, j, k)) -/
def rgVC (lo c : Int) (n : Nat) : List V := (List.range n).map fun i => V.int (lo + (i : Nat) * c)
theorem vals_rgC {lo c : Int} {n : Nat} {acc : Array Value} (h : ItemsOf (fun i v => ∃ t, v = .int (lo + i * c) t) acc n) : Vals (rgVC lo c n) acc.toList := by
  have e : acc.toList.length = n := by rw [Array.length_toList]; exact h.1
  unfold rgVC
  rw [← e]
  refine vals_of_get acc.toList _ fun j u hj => ?_
  obtain ⟨t, rfl⟩ := h.2 j u (by rw [← hj, Array.getElem?_toList])
  exact ⟨t, rfl⟩
def tLstRg3 (ta : TA) : TE := fun σ H Q => ta σ H fun vs H1 => ∃ (i j c : Int) (n : Nat), vs = [.int i, .int j, .int c] ∧ RgC i j c n ∧ n ≤ 2 ^ 24 ∧ ∀ q, H1 q = none → Q (.ref q) (upd H1 q (.lst (rgVC i c n)))
theorem pe_listRg3 {ta : TA} (hc : X.calm = true) (hg : Gl X "list") (hm : X.mg "list" = none) (hg2 : Gl X "range") (hm2 : X.mg "range" = none) (ha : PA X [a, b, c] ta) (hs : starEach [a, b, c] X.env = (false, eval a X.env) :: starEach [b, c] X.env := by rfl) (hpl : (backTo pos2 (starEach [b, c] X.env)).any (·.1) = false := by rfl)
    (na : starEach [.Call (.Name "range" p2) [a, b, c] [] pos2] X.env = (false, eval (.Call (.Name "range" p2) [a, b, c] [] pos2) X.env) :: starEach [] X.env := by rfl) :
    PE X (.Call (.Name "list" p) [.Call (.Name "range" p2) [a, b, c] [] pos2] [] pos) (tLstRg3 ta) := by
  refine ⟨fun pins s σ H Q I h => ?_⟩
  refine Call_ (ld_blt I hg hm boot_list (PyProof.Rows.callWith_type1 (args_cons (thn (Call_ (ld_blt I hg2 hm2 boot_range (PyProof.Rows.callWith_type1 (thn (ha.run pos2 pins s σ H _ I h) fun us s1 ⟨vs, H1, I1, r1, q1⟩ => ?_) hs hpl))) fun x s1 (z : ∃ r i j k n t u v H1, x = .ref r ∧ IsRange s1.heap r i j k t u v ∧ Inv X pins σ H1 s1 ∧ RgC i j k n ∧ n ≤ 2 ^ 24 ∧ ∀ q, H1 q = none → Q (.ref q) (upd H1 q (.lst (rgVC i k n)))) => args_nil ?_) na) na))
  · obtain ⟨i, j, k, n, e, ok, hn, q⟩ := q1
    subst e
    cases r1 with
    | cons r rr =>
      cases rr with
      | cons r' rr =>
        cases rr with
        | cons r'' rr =>
          cases rr
          obtain ⟨t, rfl⟩ := r
          obtain ⟨t', rfl⟩ := r'
          obtain ⟨t'', rfl⟩ := r''
          refine call_range_3 ok.1 ?_ (.inl (PyProof.noPylong_small ok.2.1))
          exact ⟨_, i, j, k, n, _, _, _, H1, rfl, IsRange.new .., I1.kept (t' := s1.toks) fun b o e => Heap.get?_push_of_some _ e, ok, hn, q⟩
  · obtain ⟨r, i, j, k, n, t, u, v, H1, ex, hr, I1, ok, hn, q⟩ := z
    subst ex
    refine call_list_range (n := n) (I1.ok.hd hc) hr ok.2.2.1 ok.2.2.2 hn fun h' tk acc c' hk e' hi => ?_
    refine ⟨.ref s1.heap.objs.size, upd H1 s1.heap.objs.size (.lst (rgVC i k n)), I1.laid hk (Nat.le_refl _) (show ObjOk X.prog X.w _ _ _ (.lst (rgVC i k n)) from ⟨?_, acc.toList, c', vals_rgC hi, ?_⟩), rfl, q _ (I1.hok.fresh (Nat.le_refl _))⟩
    · unfold rgVC; rw [List.length_map, List.length_range, sizeLine_eq]; omega
    · rw [Array.toArray_toList]; exact e'
def dLsR3 (t : TAD) : TED := fun σ G Q E => t σ G (fun ds G1 => ∃ i j k : Int, ds = [.int i, .int j, .int k] ∧ (-(2 ^ 61) ≤ i ∧ i < 2 ^ 61 ∧ -(2 ^ 61) ≤ j ∧ j < 2 ^ 61 ∧ 0 < k ∧ k < 1073741824) ∧ upN i j k ≤ 2 ^ 24 ∧ Q (.lst (rgItemsC i k (upN i j k))) G1) E
theorem rps_rgC {K : Frag} {H : Hp} {G : HH} (lo c : Int) (n : Nat) : Rps K H G (rgItemsC lo c n) (rgVC lo c n) := by
  unfold rgItemsC rgVC
  generalize List.range n = l
  induction l with
  | nil => exact .nil
  | cons i l ih => exact .cons (.int _) ih
theorem de_lsR3 (hc : X.calm = true) (hg : Gl X "list") (hm : X.mg "list" = none) (hg2 : Gl X "range") (hm2 : X.mg "range" = none) (ha : DA X W [a, b, c] t) (hs : starEach [a, b, c] X.env = (false, eval a X.env) :: starEach [b, c] X.env := by rfl) (hpl : (backTo pos2 (starEach [b, c] X.env)).any (·.1) = false := by rfl)
    (na : starEach [.Call (.Name "range" p2) [a, b, c] [] pos2] X.env = (false, eval (.Call (.Name "range" p2) [a, b, c] [] pos2) X.env) :: starEach [] X.env := by rfl) :
    DE X W (.Call (.Name "list" p) [.Call (.Name "range" p2) [a, b, c] [] pos2] [] pos) (dLsR3 t) :=
  PE.imp (pe_listRg3 hc hg hm hg2 hm2 ha hs hpl na) fun σ H Q ⟨σD, G, QD, E, hR, hS, q, hq, he⟩ =>
    ⟨σD, G, _, E, hR, hS, q, fun vs H1 ds G1 s1 r1 p1 ⟨i, j, k, e, ⟨l1, l2, l3, l4, l5, l6⟩, hn, z⟩ => by
      subst e
      obtain ⟨v, w, u, rfl, p1, p2, p3⟩ := rps3 p1
      cases p1; cases p2; cases p3
      exact ⟨i, j, k, _, rfl, rgc_up l1 l2 l3 l4 l5 l6, hn, fun q hp => (hq.mono s1).lst r1 hp (rps_rgC i k _) z⟩, he⟩
/-! ### sorted texts -/
def kSortS : RCD := c1 fun x G Q => ∃ ns : List Str, LsW G x (ns.map D.str) ∧ ns.length < 64 ∧ ∀ ms : List Str, ms.Perm ns → sortedS ms = true → Q (.lst (ms.map D.str)) G
theorem cSortS : CallD X (.builtin "sorted") kSortS := ⟨_, cr_sortedS, fun xs H Q ds G QD hR hp ⟨x, e, ns, s, h64, q⟩ hq => by
  subst e
  obtain ⟨v, rfl, p⟩ := rps1 hp
  obtain ⟨a, vs, rfl, h, r⟩ := s.of hR p
  rw [r.strs] at h
  exact ⟨a, ns, rfl, h, h64, fun ns' l hp hs hl => hq.lst hR hl (Rps.of_strs ns') (q ns' hp hs)⟩⟩
/-- sorted(ints or texts) -/
def kSort : RCD := fun ds G Q => kSortI ds G Q ∨ kSortS ds G Q
theorem cSort : CallD X (.builtin "sorted") kSort := cSortI.or cSortS
end
section
variable {σ : SD} {G : HH} {E : ED} {t : TAD} {Q : QD} {x : D}
theorem st_rng3 {R : List D → (HH → Prop) → HH → Prop} (h : t σ G (fun ds G1 => ∃ i j k : Int, ds = [.int i, .int j, .int k] ∧ (-(2 ^ 61) ≤ i ∧ i < 2 ^ 61 ∧ -(2 ^ 61) ≤ j ∧ j < 2 ^ 61 ∧ 0 < k ∧ k < 1073741824) ∧ R (rgItemsC i k (upN i j k)) okT G1) E) : iRngD3 t σ G R E := h
theorem st_rng3q {i j k : Int} {P : Int → Int → Int → Prop} (hh : -(2 ^ 61) ≤ i ∧ i < 2 ^ 61 ∧ -(2 ^ 61) ≤ j ∧ j < 2 ^ 61 ∧ 0 < k ∧ k < 1073741824) (h : P i j k) : ∃ i' j' k' : Int, [D.int i, D.int j, D.int k] = [.int i', .int j', .int k'] ∧ (-(2 ^ 61) ≤ i' ∧ i' < 2 ^ 61 ∧ -(2 ^ 61) ≤ j' ∧ j' < 2 ^ 61 ∧ 0 < k' ∧ k' < 1073741824) ∧ P i' j' k' := ⟨i, j, k, rfl, hh, h⟩
theorem st_lsR3 (h : t σ G (fun ds G1 => ∃ i j k : Int, ds = [.int i, .int j, .int k] ∧ (-(2 ^ 61) ≤ i ∧ i < 2 ^ 61 ∧ -(2 ^ 61) ≤ j ∧ j < 2 ^ 61 ∧ 0 < k ∧ k < 1073741824) ∧ upN i j k ≤ 2 ^ 24 ∧ Q (.lst (rgItemsC i k (upN i j k))) G1) E) : dLsR3 t σ G Q E := h
theorem st_lsR3q {i j k : Int} (hh : -(2 ^ 61) ≤ i ∧ i < 2 ^ 61 ∧ -(2 ^ 61) ≤ j ∧ j < 2 ^ 61 ∧ 0 < k ∧ k < 1073741824) (hn : upN i j k ≤ 2 ^ 24) (h : Q (.lst (rgItemsC i k (upN i j k))) G) : ∃ i' j' k' : Int, [D.int i, D.int j, D.int k] = [.int i', .int j', .int k'] ∧ (-(2 ^ 61) ≤ i' ∧ i' < 2 ^ 61 ∧ -(2 ^ 61) ≤ j' ∧ j' < 2 ^ 61 ∧ 0 < k' ∧ k' < 1073741824) ∧ upN i' j' k' ≤ 2 ^ 24 ∧ Q (.lst (rgItemsC i' k' (upN i' j' k'))) G := ⟨i, j, k, rfl, hh, hn, h⟩
/-- the lesser text first -/
def leS (a b : Str) : Bool := !ltCps b.cps.toList a.cps.toList
def pairS (a b : Str) : List Str := if leS a b then [a, b] else [b, a]
theorem lt_tri : ∀ a b : List Nat, ltCps a b = false → ltCps b a = false → a = b
  | [], [], _, _ => rfl
  | [], _ :: _, h, _ => by simp [ltCps] at h
  | _ :: _, [], _, h => by simp [ltCps] at h
  | a :: r, b :: t, h1, h2 => by
    simp only [ltCps, Bool.or_eq_false_iff, decide_eq_false_iff_not, Bool.and_eq_false_iff, beq_eq_false_iff_ne] at h1 h2
    have e : a = b := by omega
    subst e
    rw [lt_tri r t (h1.2.resolve_left (by simp)) (h2.2.resolve_left (by simp))]
theorem le_anti {a b : Str} (h1 : leS a b = true) (h2 : leS b a = true) : a = b := by
  obtain ⟨⟨a⟩⟩ := a
  obtain ⟨⟨b⟩⟩ := b
  unfold leS at h1 h2
  simp only [Bool.not_eq_true'] at h1 h2
  rw [lt_tri a b h2 h1]
theorem lt_asym : ∀ a b : List Nat, ltCps a b = true → ltCps b a = false
  | [], [], _ => rfl
  | [], _ :: _, _ => rfl
  | _ :: _, [], h => by simp [ltCps] at h
  | a :: r, b :: t, h => by
    simp only [ltCps, Bool.or_eq_true, decide_eq_true_eq, Bool.and_eq_true, beq_iff_eq] at h
    simp only [ltCps, Bool.or_eq_false_iff, decide_eq_false_iff_not, Bool.and_eq_false_iff, beq_eq_false_iff_ne]
    rcases h with h | ⟨rfl, h⟩
    · exact ⟨by omega, .inl (by omega)⟩
    · exact ⟨by omega, .inr (lt_asym r t h)⟩
theorem le_total (a b : Str) : leS a b = true ∨ leS b a = true := by
  unfold leS
  cases h : ltCps b.cps.toList a.cps.toList with
  | false => exact .inl rfl
  | true => exact .inr (by rw [lt_asym _ _ h]; rfl)
theorem perm2 {α : Type} {a b : α} {ms : List α} (h : ms.Perm [a, b]) : ms = [a, b] ∨ ms = [b, a] := by
  have hl := h.length_eq
  match ms, hl with
  | [x, y], _ =>
    have hx : x ∈ [a, b] := h.mem_iff.mp (by simp)
    simp only [List.mem_cons, List.not_mem_nil, or_false] at hx
    rcases hx with rfl | rfl
    · have := (List.perm_cons x).mp h
      rw [List.perm_singleton.mp this]; exact .inl rfl
    · have := (List.perm_cons x).mp (h.trans (List.Perm.swap x a []))
      rw [List.perm_singleton.mp this]; exact .inr rfl
theorem pairS_of {a b : Str} {ms : List Str} (h : ms.Perm [a, b]) (s : sortedS ms = true) : ms = pairS a b := by
  unfold pairS
  rcases perm2 h with rfl | rfl
  · have h1 : leS a b = true := by simpa [sortedS, risingS, leS] using s
    rw [if_pos h1]
  · have h1 : leS b a = true := by simpa [sortedS, risingS, leS] using s
    split
    · rename_i h2
      rw [le_anti h1 h2]
    · rfl
theorem pairS_comm (a b : Str) : pairS a b = pairS b a := by
  unfold pairS
  by_cases h1 : leS a b = true <;> by_cases h2 : leS b a = true
  · rw [le_anti h1 h2]
  · rw [if_pos h1, if_neg h2]
  · rw [if_neg h1, if_pos h2]
  · rcases le_total a b with h | h
    · exact absurd h h1
    · exact absurd h h2
theorem st_sortS2 {G : HH} {Q : QD} {a b : Str} (q : Q (.lst ((pairS a b).map D.str)) G) : kSort [.lst [.str a, .str b]] G Q :=
  .inr ⟨_, rfl, [a, b], .lst _, by simp, fun ms hp hs => by rw [pairS_of hp hs]; exact q⟩
theorem st_sortI' {G : HH} {Q : QD} {x : D} {ns : List Int} (h : LsW G x (ns.map D.int)) (q : ∀ ms : List Int, ms.Perm ns → ms.Pairwise (· ≤ ·) → Q (.lst (ms.map D.int)) G) : kSort [x] G Q := .inl (st_sortI h q)
end
end DL

namespace DL
open PySem PySem.Spec PyProof.Rows L2
open PySem.W (Frag)
/-! ### raise C(), a class without a making of its own -/
abbrev bmVE : List Value := [Value.type "ValueError", Value.type "Exception", Value.type "BaseException", Value.type "object"]
/-- what the written part says of such a class -/
structure ExcN (K : Frag) (C : Addr) : Prop where
  q : PySem.W.excIn K C bmVE "ValueError.__new__" = true
  exC : PySem.W.subIn K (.ref C) (.type "BaseException") = some true
  tyC : PySem.W.typeIn K (.ref C) = some (.type "type")
  kC : PySem.W.keepIn K (.ref C) = true
section
variable {X : Cx} {W : WX} {C : Addr} {c x : Str} {p pos pos' : Pos}
theorem pmk_own0 (T : ExcN X.K C) (gC : X.mg x = some (.ref C)) (hg : Gl X x) (hdb : (x == ("__debug__" : Str)) = false := by decide) : PMk X (.Call (.Name x p) [] [] pos) (fun _ H Q => Q (.ref C) none H) := by
  intro pins s σ H Q I h
  refine wpAny_Call_Name_kw (ld_glob I hg gC ?_ hdb)
  refine PySem.W.callWith_K0 I.kIn T.kC ?_
  show wpAny _ _ (call (.ref C) []) _ _ _
  obtain ⟨bm, N, nm, qn, bs, hdct, sn, sub, ab, col, dd, k0, k1, k2, k3, k5, mN, hC, hN, hni, OT⟩ := exc_obj I.kIn T.q
  refine wpAny_call_exc_subT PySem.F.excBase_ValueError OT hC hN hni (fun h' e hm => ?_) (by show 0 ≤ sizeLine; omega)
  exact mk_of I hm (raises_own T.exC T.tyC) h (I.hok.gone hm.new)
def dRaise0 (c : Str) : TSD := fun D σ G => D.ex ⟨.own c, [], []⟩ σ G
theorem ds_raise0 (hc : X.calm = true) (tk : Takes X W) (hC : gaddr X.K c = some C) (T : ExcN X.K C) (hg : Gl X x) (hm : X.mg x = some (.ref C)) (hdb : (x == ("__debug__" : Str)) = false := by decide) :
    DS X W (.Raise (some (.Call (.Name x p) [] [] pos')) none pos) (dRaise0 c) :=
  PS.imp (ps_raise hc tk (pmk_own0 T hm hg hdb)) fun D σ H ⟨σD, G, DD, hR, hS, q, hE⟩ =>
    hE.ex ⟨.own c, [], []⟩ _ _ _ σD _ G Stp.refl hR hS ⟨⟨C, hC, rfl⟩, rfl, rfl⟩ q
end
section
variable {c : Str} {nx bk ct : SD → HH → Prop} {rt : QD} {ex : XD → SD → HH → Prop} {σ : SD} {G : HH}
theorem st_raise0 (h : ex ⟨.own c, [], []⟩ σ G) : dRaise0 c ⟨nx, rt, bk, ct, ex⟩ σ G := h
end
end DL

namespace DL
open PySem PySem.Spec PyProof.Rows L2
open PySem.W (Frag)
/-! ### o.m(e, ..), m a method f(self, *v) -/
section
variable {X : Cx} {W : WX} {e o : Expr} {es : List Expr} {to : TED} {t : TAD} {pos apos : Pos} {k : Nat} {f C : Addr} {sp : SpD}
theorem run_callS {pins : List (Addr × Obj)} {σ : L2.St} {H : Hp} {s : Shared} {Q : VK} {us : List Value} {vs : List V} (F : FnS X.prog X.w X.K X.mg X.base k f sp) (hg : X.A.guards = some []) (hr : Room k X.A) (tk : Takes X W)
    (I : Inv X pins σ H s) (r : Vals vs us) (h : lsp X.K sp vs H Q (WE W σ)) : wpAny (model X.prog X.w) X.A (call (.ref f) us) (EP X pins σ Q) X.xe s := by
  refine wpAny_call (codeAny_mono (F X.A X.stack s H us vs Q (WE W σ) hg hr I.env0 r h) fun r s' hq => ?_)
  cases r with
  | error e => exact passAt tk σ pins H s e s' I hq
  | ok fl =>
    cases fl with
    | ret u => exact I.after hq
    | next => exact False.elim hq
    | brk => exact False.elim hq
    | cont => exact False.elim hq
theorem de_methS {c m : Str} {pl : Sem Bool} (hC : gaddr X.K c = some C) (hcl : Cls X.K C) (hm : Meth X.K C m f) (F : FnS X.prog X.w X.K X.mg X.base k f sp) (hgd : X.A.guards = some []) (hr : Room k X.A) (tk : Takes X W) (ho : DE X W o to) (ha : DA X W (e :: es) t)
    (hst : starEach (e :: es) X.env = (false, eval e X.env) :: starEach es X.env := by rfl) (hpl : (backTo pos (starEach es X.env)).any (·.1) = false := by rfl)
    (ht : eval (.Call (.Attribute o m apos) (e :: es) [] pos) X.env = (do
      let ov ← eval o X.env
      standAt apos.atName
      let (f, first) ← holding [ov] (getMethod ov m pl)
      callWith pos f first (backTo pos (starEach (e :: es) X.env)) (backToKw pos (keywordEach [] X.env))) := by rfl) :
    DE X W (.Call (.Attribute o m apos) (e :: es) [] pos) (dMeth c m sp to t) := by
  have ha' : PA X (e :: es) (lftA X.K W t) := ha
  have ho' : PE X o (lft X.K W to) := ho
  refine ⟨fun pins s σ H Q I ⟨σD, G, QD, E, hR, hS, q, hq, hE⟩ => ?_⟩
  refine PySem.W.methodCall_KW (pl := pl) (thn (ho'.run pins s σ H (fun v H1 => ∃ d G1, Stp H G H1 G1 ∧ RelH X.K H1 G1 ∧ Rp X.K H1 G1 d v ∧ ∃ ns ds, InsD G1 d c ns ds ∧ lk m ns ds = none ∧ t σD G1 (fun as G2 => sp (d :: as) G2 QD E) E) I ⟨σD, G, _, E, hR, hS, q, fun v H1 d G1 s1 r1 p1 z => ⟨d, G1, s1, r1, p1, z⟩, hE⟩) fun u s1 ⟨x, H1, I1, rx, d, G1, s1', r1, p1, ns, ds, hi, hl, q1⟩ => ?_) ht
  obtain ⟨a, C', dx, xs, ex, h1, h2, h3, h4⟩ := hi.of r1 p1
  rw [hC] at h1; cases h1
  subst ex
  obtain rfl : u = Value.ref a := rx
  have hl' : (ns.zip xs).lookup m = none := by
    rcases lk_zip (f := m) h4 h3 with ⟨_, z⟩ | ⟨d', v, e1, _, _⟩
    · exact z
    · rw [hl] at e1; cases e1
  refine getmeth_ok I1 h2 hcl hm hl' ?_
  refine PySem.W.callWith_K (first := [.ref a]) (h₀ := X.base) I.ok.mod.kin hm.kp (thn (ha'.run pos pins s1 σ H1 (fun vs H2 => lsp X.K sp (.ref a :: vs) H2 Q (WE W σ)) I1 ⟨σD, G1, _, E, r1, hS.mono s1', q1, fun vs H2 as G2 s2 r2 p2 q2 => ?_, hE.mono s1'⟩) fun us s2 ⟨vs, H2, I2, r, q2⟩ => ⟨I2.kIn, ?_⟩) hst hpl
  · exact ⟨d :: as, G2, QD, E, r2, .cons (p1.mono s2) p2, q2, hq.mono (s1'.trans s2), fun xd cls d' H' G' s' r' p' z' => hE _ _ _ _ _ ((s1'.trans s2).trans s') r' p' z'⟩
  · exact run_callS F hgd hr tk I2 (us := Value.ref a :: us) (vs := V.ref a :: vs) (.cons rfl r) q2
end
section
variable {ds : List D} {G : HH} {Q : QD} {E : ED} {sp : SpD} {x : D}
theorem st_starM (hz : ds.length ≤ 1000) (h : sp [x, .tup ds] G Q E) : starSp 1 sp (x :: ds) G Q E := ⟨by simp, by rw [sizeLine_eq, List.length_cons]; omega, h⟩
end
end DL

namespace DL
open PySem PySem.Spec PyProof.Rows L2
open PySem.W (Frag)
/-! ### text.split(text) -/
section
variable {X : Cx} {W : WX} {o e : Expr} {to te : TED} {apos pos : Pos}
theorem rps_strs {K : Frag} {H : Hp} {G : HH} : ∀ zs : List Str, Rps K H G (zs.map D.str) (zs.map V.str)
  | [] => .nil
  | z :: zs => .cons (.str z) (rps_strs zs)
def SplT (fr : Bool) (a b : Str) (G : HH) (Q : QD) : Prop := (b.length == 0) = false ∧ a.length + 2 ≤ sizeLine ∧ if fr = true then Q (.lst ((Txt.split a b).map D.str)) G else ∀ p, G p = none → Q (.ref p) (gput G p (.lst ((Txt.split a b).map D.str)))
def dSplit (fr : Bool) (to te : TED) : TED := fun σ G Q E => to σ G (fun x G1 => ∃ a, x = .str a ∧ te σ G1 (fun y G2 => ∃ b, y = .str b ∧ SplT fr a b G2 Q) E) E
theorem de_split (fr : Bool) (ho : DE X W o to) (he : DE X W e te) (hs : starEach [e] X.env = [(false, eval e X.env)] := by rfl) (hbase : attributeBase o "split" X.env (eval o X.env) = eval o X.env := by rfl) (hline : (apos.endLine == pos.line) = true := by rfl) :
    DE X W (.Call (.Attribute o "split" apos) [e] [] pos) (dSplit fr to te) :=
  PE.imp (pe_split ho he hs hbase hline) fun σ H Q ⟨σD, G, QD, E, hR, hS, q, hq, hE⟩ => by
    refine ⟨σD, G, _, E, hR, hS, q, fun v1 H1 d1 G1 s1 r1 p1 ⟨a, ea, q1⟩ => ?_, hE⟩
    subst ea; cases p1
    refine ⟨⟨_, rfl⟩, σD, G1, _, E, r1, hS.mono s1, q1, fun v2 H2 d2 G2 s2 r2 p2 ⟨b, eb, hb, hl, q2⟩ => ?_, hE.mono s1⟩
    subst eb; cases p2
    refine ⟨a, b, rfl, rfl, hb, hl, fun l hn => ?_⟩
    cases fr with
    | true =>
      rw [if_pos rfl] at q2
      exact (hq.mono (s1.trans s2)).lst r2 hn (rps_strs _) q2
    | false =>
      rw [if_neg Bool.false_ne_true] at q2
      have s3 : Stp H2 G2 (upd H2 l (.lst ((Txt.split a b).map V.str))) (gput G2 l (.lst ((Txt.split a b).map D.str))) := .newM hn
      exact (hq.mono (s1.trans s2)) _ _ _ _ s3 (r2.newM hn ⟨_, upd_same, rps_strs _⟩) (.ref l) (q2 l (r2.free hn))
end
section
variable {σ : SD} {G : HH} {Q : QD} {E : ED} {fr : Bool} {to te : TED}
theorem st_split (h : to σ G (fun x G1 => ∃ a, x = .str a ∧ te σ G1 (fun y G2 => ∃ b, y = .str b ∧ SplT fr a b G2 Q) E) E) : dSplit fr to te σ G Q E := h
theorem st_splT {a b : Str} (hb : (b.length == 0) = false) (hl : a.length + 2 ≤ sizeLine) (q : Q (.lst ((Txt.split a b).map D.str)) G) : SplT true a b G Q := ⟨hb, hl, by rw [if_pos rfl]; exact q⟩
theorem st_splF {a b : Str} (hb : (b.length == 0) = false) (hl : a.length + 2 ≤ sizeLine) (q : ∀ p, G p = none → Q (.ref p) (gput G p (.lst ((Txt.split a b).map D.str)))) : SplT false a b G Q := ⟨hb, hl, by rw [if_neg Bool.false_ne_true]; exact q⟩
end
theorem st_exS {a : Str} {P : Str → Prop} (h : P a) : ∃ b, D.str a = .str b ∧ P b := ⟨a, rfl, h⟩
/-! ### int(text) -/
def kIntS : RCD := c1 fun x G Q => ∃ a n, x = .str a ∧ PySem.intText? a = some n ∧ a.length ≤ 640 ∧ Q (.int n) G
theorem cIntS {X : Cx} : CallD X (.type "int") kIntS := ⟨_, call_int_str, fun xs H Q ds G QD hR hp ⟨x, e, a, n, ea, hn, hl, q⟩ hq => by
  subst e
  obtain ⟨v, rfl, p⟩ := rps1 hp
  subst ea
  cases p
  exact ⟨a, n, rfl, hn, hl, hq.now hR (.int _) q⟩⟩
theorem st_intS {a : Str} {n : Int} {G : HH} {Q : QD} (hn : PySem.intText? a = some n) (hl : a.length ≤ 640) (h : Q (.int n) G) : kIntS [.str a] G Q := ⟨_, rfl, a, n, rfl, hn, hl, h⟩
end DL

namespace DL
open PySem PySem.Spec PyProof.Rows L2
open PySem.W (Frag)
/-! ### text * int -/
def repS (z : Str) (n : Nat) : Str := ⟨(List.replicate n z.cps).foldl (· ++ ·) #[]⟩
theorem foldl_app (z a : Array Nat) : ∀ n, ((List.replicate n z).foldl (· ++ ·) a).toList = a.toList ++ (List.replicate n z.toList).flatten
  | 0 => by simp
  | n + 1 => by
    rw [List.replicate_succ, List.foldl_cons, foldl_app z (a ++ z) n, List.replicate_succ, List.flatten_cons, Array.toList_append, List.append_assoc]
theorem repS_tl (z : Str) (n : Nat) : (repS z n).cps.toList = (List.replicate n z.cps.toList).flatten := by
  unfold repS
  rw [foldl_app]
  simp
theorem repS_len (z : Str) (n : Nat) : (repS z n).length = n * z.length := by
  have h : (repS z n).length = (repS z n).cps.toList.length := (Array.length_toList).symm
  rw [h, repS_tl, List.length_flatten, List.map_replicate, List.sum_replicate_nat, Array.length_toList]
  rfl
theorem repS_zero (z : Str) : repS z 0 = Str.empty := rfl
theorem repS_one (z : Str) : repS z 1 = z := by
  cases z with
  | mk c => simp [repS]
def rRepS : R2 := fun x y H Q => ∃ i k, x = .str i ∧ y = .int k ∧ 0 ≤ k ∧ k ≤ 100000 ∧ 0 < i.length ∧ i.length * k.toNat ≤ sizeLine ∧ Q (.str (repS i k.toNat)) H
theorem op_repS {X : Cx} : OpR X (binaryOp .Mult) rRepS := by
  intro pins s σ H x y v u Q I rx ry h
  obtain ⟨i, k, rfl, rfl, h0, hk, hi, hs, q⟩ := h
  obtain ⟨t, rfl⟩ := rx
  obtain ⟨t', rfl⟩ := ry
  have hsz : sizeLine = 16777216 := sizeLine_eq
  have hil : i.length ≤ sizeLine ∨ k = 0 := by
    by_cases hk0 : k = 0
    · exact .inr hk0
    · refine .inl (Nat.le_trans ?_ hs)
      exact Nat.le_mul_of_pos_right _ (by omega)
  refine P.mul_str (by rw [decide_eq_false (by omega), decide_eq_false (by omega)]; rfl) (fun hn _ => ?_) (fun _ _ => ?_) ?_
  · have hil := hil.resolve_right (by omega)
    have h1 : (16777216 : Int) ≤ (2 ^ 63 - 1) / k := (Int.le_ediv_iff_mul_le (by omega)).mpr (by
      have := Int.mul_le_mul_of_nonneg_left hk (by decide : (0 : Int) ≤ 16777216)
      omega)
    omega
  · unfold Builtin.Str.tooLong
    exact decide_eq_false (by omega)
  · by_cases hn : k < 1
    · obtain rfl : k = 0 := by omega
      rw [if_pos hn]
      exact ⟨by decide, .str Str.empty, H, I.tok _, ⟨_, rfl⟩, q⟩
    · rw [if_neg hn]
      by_cases h1 : k = 1
      · subst h1
        rw [if_pos (by rfl)]
        rw [show (1 : Int).toNat = 1 from rfl, repS_one] at q
        exact ⟨.str i, H, I, ⟨_, rfl⟩, q⟩
      · rw [if_neg (by
          rw [Bool.or_eq_true]
          rintro (h | h)
          · exact h1 (by simpa using h)
          · have : i.length = 0 := by simpa using h
            omega)]
        refine ⟨?_, .str (repS i k.toNat), H, I.tok _, ⟨_, rfl⟩, q⟩
        have := repS_len i k.toNat
        rw [Nat.mul_comm] at this
        show (repS i k.toNat).length ≤ sizeLine
        omega
def mStr : D → D → HH → QD → Prop := fun x y G Q => ∃ i k, x = .str i ∧ y = .int k ∧ 0 ≤ k ∧ k ≤ 100000 ∧ 0 < i.length ∧ i.length * k.toNat ≤ sizeLine ∧ Q (.str (repS i k.toNat)) G
theorem oMulS {X : Cx} : OpD X (binaryOp .Mult) mStr := ⟨_, op_repS, fun x y H Q dx dy G QD hR px py ⟨i, k, e1, e2, h0, h1, h2, h3, q⟩ hq => by
  subst e1; subst e2; cases px; cases py
  exact ⟨_, _, rfl, rfl, h0, h1, h2, h3, hq.now hR (.str _) q⟩⟩
theorem st_repS {i : Str} {k : Int} {G : HH} {Q : QD} (h0 : 0 ≤ k ∧ k ≤ 100000) (h2 : 0 < i.length) (h3 : i.length * k.toNat ≤ sizeLine) (q : Q (.str (repS i k.toNat)) G) : mStr (.str i) (.int k) G Q := ⟨_, _, rfl, rfl, h0.1, h0.2, h2, h3, q⟩
end DL

namespace LW
open PySem PySem.Spec PyProof.Rows L2 DL
open PySem.W (Frag)
/-! short ways through the steps (local to this text) -/
local macro_rules | `(tactic| walk_at "get") => `(tactic| first | exact GetAt.z | (refine' GetAt.s ?k3; (case k3 => walk_at "get")))
local macro_rules | `(tactic| walk_at "put") => `(tactic| first | exact SetAt.z | (refine' SetAt.s ?k3; (case k3 => walk_at "put")))
local macro_rules | `(tactic| walk_at "ne") => `(tactic| first | assumption | (refine Ne.symm ?_; assumption) | exact ne_sn (by assumption) (by assumption) | exact Ne.symm (ne_sn (by assumption) (by assumption)))
local macro_rules | `(tactic| walk_at "hp") => `(tactic| first | assumption | exact gput_same | exact gdel_same | (refine' (gput_ne ?k4).trans ?k5; (case k4 => walk_at "ne"); (case k5 => walk_at "hp")) | (refine' (gdel_ne ?k4).trans ?k5; (case k4 => walk_at "ne"); (case k5 => walk_at "hp")))
local macro_rules | `(tactic| walk_at "sq") => `(tactic| first | with_reducible exact Sq.tup _ | with_reducible exact Sq.lst _ | with_reducible exact Sq.wls _ | with_reducible exact LsW.lst _ | with_reducible exact LsW.wls _ | with_reducible exact Ls.lst _ | ((with_reducible refine' Sq.ref ?k6); (case k6 => walk_at "hp")) | ((with_reducible refine' LsW.ref ?k6); (case k6 => walk_at "hp")) | ((with_reducible refine' Ls.ref ?k6); (case k6 => walk_at "hp")))
local macro_rules | `(tactic| walk_at "sz") => `(tactic| first | decide | omega | (simp only [List.length_append, List.length_cons, List.length_nil, List.length_map, sizeLine_eq]; omega) | (simp only [List.length_append, List.length_cons, List.length_nil, List.length_map, sizeLine_eq]; split <;> simp only [List.length_append, List.length_cons, List.length_nil, List.length_map] <;> omega))
local macro_rules | `(tactic| walk_at "lk") => `(tactic| first | with_reducible exact lk_here | with_reducible exact lk_nil | ((with_reducible refine' lk_next ?n1 ?n2); (case n1 => decide +kernel); (case n2 => walk_at "lk")) | ((with_reducible refine' lk_not ?n1 ?n2); (case n1 => decide +kernel); (case n2 => walk_at "lk")))
local macro_rules | `(tactic| walk_at "b1") => `(tactic| first
  | with_reducible refine st_iSq ?_ | with_reducible refine st_sqT ?_ | ((with_reducible refine' st_sqL ?k1 ?k2); (case k1 => walk_at "sq")) | with_reducible refine st_sqS ?_
  | with_reducible refine st_seq ?_ | with_reducible refine st_asg ?_
  | ((with_reducible refine' st_var ?k1 ?k2); (case k1 => walk_at "get"))
  | with_reducible refine st_c ?_ | with_reducible refine st_op ?_
  | with_reducible refine st_cons ?_ | with_reducible refine st_nil ?_
  | ((with_reducible refine' st_name ?k1 ?k2); (case k1 => walk_at "put"))
  | with_reducible refine st_oI0 ?_ | with_reducible refine st_addI ?_
  | with_reducible refine st_call ?_ | with_reducible refine st_cb ?_ | with_reducible refine st_callK ?_
  | with_reducible refine st_test ?_ | with_reducible refine st_bl ?_ | with_reducible refine st_blq ?_
  | with_reducible refine st_not ?_
  | with_reducible refine st_tru ?_ | with_reducible refine st_tru_blq ?_
  | with_reducible refine st_notV ?_
  | with_reducible refine st_sl ?_ | with_reducible refine st_nopart ?_ | with_reducible refine st_part ?_ | with_reducible refine st_int ?_
  | with_reducible refine st_next ?_ | with_reducible refine st_break ?_ | with_reducible refine st_cont ?_
  | with_reducible refine st_for ?_ | with_reducible refine st_lc ?_
  | ((with_reducible refine' st_setat ?k1 ?k2 ?k3); (case k1 => walk_at "hp"); (case k2 => first | assumption | rfl))
  | with_reducible refine st_drop ?_ | with_reducible refine st_ret ?_ | with_reducible refine st_retN ?_ | with_reducible refine st_retF ?_
  | with_reducible refine st_neSame ?_ | with_reducible refine st_eqSame ?_
  | ((with_reducible refine' st_eqDiff ?k1 ?k2); (case k1 => decide +kernel)) | ((with_reducible refine' st_neDiff ?k1 ?k2); (case k1 => decide +kernel))
  | with_reducible refine st_ifS ?_ | with_reducible refine st_iteT ?_ | with_reducible refine st_iteF ?_ | with_reducible refine st_iteNT ?_ | with_reducible refine st_iteNF ?_
  | with_reducible refine st_gtup rfl ?_ | with_reducible refine st_glst rfl ?_ | with_reducible refine st_gnil ?_ | with_reducible refine st_gcons ?_ | with_reducible refine st_gsub ?_
  | with_reducible refine st_par ?_ | with_reducible refine st_iTup ?_ | with_reducible refine st_tupq ?_ | with_reducible refine st_iLst ?_ | with_reducible refine st_lsq ?_ | with_reducible refine st_wlsq ?_
  | with_reducible refine st_rng1 ?_ | with_reducible refine st_rng2 ?_ | ((with_reducible refine' st_rng1q ?k1 ?k2 ?k3); (case k1 => walk_at "sz"); (case k2 => walk_at "sz"))
  | ((with_reducible refine' st_rng2q ?k1 ?k2); (case k1 => (refine ⟨?_, ?_, ?_, ?_⟩ <;> walk_at "sz")))
  | ((with_reducible refine' st_par2 ?k1 ?k2 ?k3); (case k1 => walk_at "put"); (case k2 => walk_at "put"))
  | with_reducible refine st_un ?_ | with_reducible refine st_uI ?_
  | ((with_reducible refine' st_mulI ?k1 ?k2); (case k1 => first | with_reducible assumption | decide))
  | ((with_reducible refine' st_oI ?k1 ?k2); (case k1 => first | with_reducible assumption | omega | decide | (refine ⟨?_, ?_, ?_⟩ <;> first | decide | omega)))
  | with_reducible refine st_eqI ?_ | with_reducible refine st_neI ?_ | with_reducible refine st_eqS ?_ | with_reducible refine st_neS ?_
  | with_reducible refine st_abs ?_ | with_reducible refine st_max2 ?_ | with_reducible refine st_min2 ?_ | with_reducible refine st_toInt ?_ | with_reducible refine st_toIntB ?_ | with_reducible refine st_bool ?_
  | ((with_reducible refine' st_tuple ?k1 ?k2); (case k1 => walk_at "sq"))
  | ((with_reducible refine' st_list ?k1 ?k2); (case k1 => walk_at "sq"))
  | with_reducible refine st_tup ⟨by walk_at "sz", ?_⟩ | with_reducible refine st_lst ?_ | with_reducible refine st_lstM ?_ | with_reducible refine st_tup ?_
  | ((with_reducible refine' st_sz ?k1 ?k2); (case k1 => walk_at "sz"))
  | with_reducible refine st_bm ?_ | with_reducible refine st_bm0 ?_
  | with_reducible refine st_fstr ?_ | with_reducible refine st_js ?_ | with_reducible refine st_jsn ?_ | with_reducible refine st_fmt ?_
  | with_reducible refine st_raise ?_ | with_reducible refine st_raise1 ?_ | with_reducible refine st_raise2 ?_ | with_reducible refine st_fld ?_ | with_reducible refine st_setF ?_ | with_reducible refine st_mk ?_ | with_reducible refine st_meth ?_ | with_reducible refine st_prop ?_ | with_reducible refine st_truO ?_ | with_reducible refine st_opO ?_
  | ((with_reducible refine' st_fldO ?fa1 ?fa2 ?fa3); (case fa1 => simp); (case fa2 => walk_at "lk"))
  | ((with_reducible refine' st_fldR ?fb1 ?fb2 ?fb3 ?fb4); (case fb1 => walk_at "hp"); (case fb2 => simp); (case fb3 => walk_at "lk"))
  | ((with_reducible refine' st_setFq ?fc1 ?fc2 ?fc3 ?fc4); (case fc1 => walk_at "hp"); (case fc2 => simp); (case fc3 => first | decide | simp); (try simp +decide only [stF, if_false, if_true]))
  | ((with_reducible refine' st_methO ?fd1 ?fd2); (case fd1 => walk_at "lk"))
  | ((with_reducible refine' st_frz ?k1 ?k2 ?k3 ?k4); (case k1 => walk_at "get"); (case k2 => walk_at "hp"); (case k3 => walk_at "put"))
  | ((with_reducible refine' st_tyL ?k1 ?k2); (case k1 => walk_at "hp"))
  | ((with_reducible refine' st_append ?k1 ?k2 ?k3); (case k1 => walk_at "hp"); (case k2 => walk_at "sz"))
  | with_reducible refine st_dget ?_ | with_reducible refine st_din ?_ | with_reducible refine st_dget1 ?_ | with_reducible refine st_dget2 ?_ | with_reducible refine st_dnew ?_ | with_reducible refine st_dput ?_ | with_reducible refine st_par3 ?_
  | ((with_reducible refine' st_isDD ?k1 ?k2); (case k1 => walk_at "hp"))
  | ((with_reducible refine' st_dinq ?k1 ?k2 ?k3); (case k1 => walk_at "hp"); (case k2 => rfl))
  | ((with_reducible refine' st_par3q ?k1 ?k2 ?k3 ?k4); (case k1 => walk_at "put"); (case k2 => walk_at "put"); (case k3 => walk_at "put"))
  | ((with_reducible refine' st_slL ?k1 ?k2); (case k1 => walk_at "sq")) | with_reducible refine st_slT ?_
  | ((with_reducible refine' st_ix ?k1 ?k2 ?k3); (case k1 => walk_at "sq"); (case k2 => first | assumption | rfl)))
local macro_rules | `(tactic| walk_at "z1") => `(tactic| first
  | with_reducible refine st_and ?_ | with_reducible refine st_or ?_ | with_reducible refine st_andV ?_ | with_reducible refine st_orV ?_ | with_reducible refine st_if ?_
  | ((with_reducible refine' st_len ?k1 ?k2); (case k1 => walk_at "sq"))
  | ((with_reducible refine' st_addL ?k1 ?k2 ?k3 ?k4); (case k1 => walk_at "sq"); (case k2 => walk_at "sq"); (case k3 => walk_at "sz"))
  | ((with_reducible refine' st_addT ?k1 ?k2); (case k1 => walk_at "sz")))
local macro_rules | `(tactic| walk_at "d1") => `(tactic| first | walk_at "b1" | walk_at "z1")
local macro_rules | `(tactic| walk_at "d") => `(tactic| repeat walk_at "d1")

theorem divW {i m : Int} (h0 : 0 < m) (h1 : m < 2 ^ 64) : CDivW i m := wide_div (b := 64) h0 (by omega) (by decide) (by decide)
theorem mulW64 {i j : Int} (h1 : i.natAbs < 2 ^ 64) (h2 : j.natAbs < 2 ^ 64) : CMulX i j := mulx_ok h1 h2 (by decide)


/-! ### drawing: a feed -/
/-- a feed at p, after at most N draws -/
def Feed (G : HH) (p : Addr) (N : Nat) : Prop := ∃ (x : Int) (cells : List Int) (k n : Int), G p = some (.lst [.int x, .lst (cells.map D.int), .int k, .int n]) ∧ 0 ≤ x ∧ (∀ c, c ∈ cells → 0 ≤ c) ∧ 0 ≤ k ∧ 0 ≤ n ∧ n ≤ (N : Int) ∧ cells.length ≤ 63
theorem Feed.mono {G : HH} {p : Addr} {N M : Nat} (h : Feed G p N) (l : N ≤ M) : Feed G p M := by
  obtain ⟨x, cs, k, n, h1, h2, h3, h4, h5, h6, h7⟩ := h
  exact ⟨x, cs, k, n, h1, h2, h3, h4, h5, by omega, h7⟩
theorem Feed.at {G G' : HH} {p : Addr} {N : Nat} (h : Feed G p N) (e : G' p = G p) : Feed G' p N := by
  obtain ⟨x, cs, k, n, h1, h2⟩ := h
  exact ⟨x, cs, k, n, by rw [e]; exact h1, h2⟩
def N_law_feed : List Str := ["_law_script", "_law_cell"]
def t_law_feed : TSD := (dRet (dLstM (dCons (dC (.int 0)) (dCons (dLc true (iSqD (dSl (dVar 0) dNoPart (dPart (dC (.int 63))))) (.nm 1) dYes (dCB kAbs (dCons (dVar 1) dNil)) [1]) (dCons (dC (.int 0)) (dCons (dC (.int 0)) dNil))))))
def sp_law_feed : SpD := fun ds G Q _ => ∃ ns : List Int, ds = [.wls (ns.map D.int)] ∧ ns.length ≤ 63 ∧ ∀ p G', G p = none → Feed G' p 0 → But p G G' → Q (.ref p) G'
theorem len_law_feed : ∀ ds G Q E, sp_law_feed ds G Q E → ds.length = 1 := by rintro ds G Q E ⟨n, rfl, _⟩; rfl
theorem cutD_map {α : Type} {c : α → D} {xs : List α} {lo hi : Option Int} : dcut (xs.map c) lo hi = ((xs.drop (HT.sIx xs.length 0 lo)).take (HT.sIx xs.length xs.length hi - HT.sIx xs.length 0 lo)).map c := by
  unfold dcut
  rw [List.length_map, ← List.map_drop, ← List.map_take]
theorem vc_law_feed : ∀ ds G Q EX, sp_law_feed ds G Q EX → t_law_feed { nx := fun _ G' => Q .non G', rt := Q, ex := fun x _ G' => EX x G' } (startD N_law_feed ds) G := by
  rintro ds G Q EX ⟨ns, rfl, h1, hq⟩
  show t_law_feed _ [some (D.wls (ns.map D.int)), none] _
  unfold t_law_feed
  repeat walk_at "d1"
  rw [cutD_map]
  refine lc_map (fun z => .int (z.natAbs : Int)) (fun _ _ _ => .lst _) ?_ (fun a ha p acc hp => ⟨_, rfl, fun Q' q => ?_⟩) ?_
  · have := List.length_take_le (HT.sIx ns.length ns.length (some 63) - HT.sIx ns.length 0 none) (ns.drop (HT.sIx ns.length 0 none))
    rw [List.length_take, List.length_drop, sizeLine_eq]
    omega
  · show dCB kAbs (dCons (dVar 1) dNil) [some (D.wls (ns.map D.int)), some (D.int a)] _ _ _
    repeat walk_at "d1"
    exact q
  · repeat walk_at "d1"
    intro p hp
    refine hq p _ hp ⟨0, ((ns.drop (HT.sIx ns.length 0 none)).take (HT.sIx ns.length ns.length (some 63) - HT.sIx ns.length 0 none)).map fun z : Int => (z.natAbs : Int), 0, 0, ?_, by omega, ?_, by omega, by omega, by omega, ?_⟩ (But.put But.refl)
    · rw [gput_same, List.map_map]
      rfl
    · intro c hc
      obtain ⟨z, _, rfl⟩ := List.mem_map.mp hc
      omega
    · rw [List.length_map, List.length_take, List.length_drop]
      omega

/-! drawing as k60 has it -/
def N_law_draw : List Str := ["_law_feed_here", "_law_many", "_law_cells", "_law_cell", "_law_mixed", "_law_digit"]
abbrev t_law_draw_1 : TSD := (dSeq (dAsg (dOp aMod (dCB kInt (dCons (dOp xAny (dVar 0) (dC (.int 0))) dNil)) (dVar 1)) (gdName 5))
  (dSeq (dAsg (dOp aDiv (dOp xAny (dVar 0) (dC (.int 0))) (dVar 1)) (gdSub (dVar 0) (dC (.int 0))))
  (dRet (dVar 5))))
abbrev t_law_draw_2 : TSD := (dSeq (dAsg (dOp aMod (dCB kInt (dCons (dOp aPow (dOp aAny (dOp aAny (dVar 4) (dOp mAny (dC (.int 7)) (dOp xAny (dVar 0) (dC (.int 3))))) (dC (.int 1))) (dC (.int 3))) dNil)) (dC (.int 2305843009213693921))) (gdName 4))
  (dRet (dOp aMod (dCB kInt (dCons (dOp aDiv (dVar 4) (dC (.int 1024))) dNil)) (dVar 1))))
abbrev t_law_draw_3 : TSD := (dSeq (dAsg (dOp aMod (dCB kInt (dCons (dOp aPow (dOp aAny (dOp aMod (dCB kInt (dCons (dVar 3) dNil)) (dC (.int 2147483629))) (dOp mAny (dC (.int 99991)) (dOp xAny (dVar 0) (dC (.int 3))))) (dC (.int 5))) dNil)) (dC (.int 2305843009213693951))) (gdName 4))
  t_law_draw_2)
abbrev t_law_draw_4 : TSD := (dSeq (dIfS (dAnd (dTest (dOp cGeI (dVar 3) (dOp aPow (dC (.int 10)) (dC (.int 18))))) (dTest (dOp cLeI (dOp xAny (dVar 0) (dC (.int 2))) (dCB kLen (dCons (dVar 2) dNil)))))
  (dSeq (dAsg (dOp aDiv (dVar 3) (dVar 1)) (gdSub (dVar 0) (dC (.int 0))))
  (dRet (dOp aMod (dCB kInt (dCons (dVar 3) dNil)) (dVar 1))))
  dNext)
  t_law_draw_3)
abbrev t_law_draw_5 : TSD := (dSeq (dAsg (dOp xAny (dVar 2) (dOp aMod (dCB kInt (dCons (dOp xAny (dVar 0) (dC (.int 2))) dNil)) (dCB kLen (dCons (dVar 2) dNil)))) (gdName 3))
  (dSeq (dAsg (dOp aAny (dOp xAny (dVar 0) (dC (.int 2))) (dC (.int 1))) (gdSub (dVar 0) (dC (.int 2))))
  t_law_draw_4))
abbrev t_law_draw_6 : TSD := (dSeq (dAsg (dOp aAny (dOp xAny (dVar 0) (dC (.int 1))) (dOp mAny (dLst (dCons (dC (.int 7)) dNil)) (dCB kInt (dCons (dOp (eAny false) (dOp xAny (dVar 0) (dC (.int 1))) (dLst dNil)) dNil)))) (gdName 2))
  t_law_draw_5)
def t_law_draw : TSD := (dSeq (dAsg (dOp aAny (dOp xAny (dVar 0) (dC (.int 3))) (dC (.int 1))) (gdSub (dVar 0) (dC (.int 3))))
  (dSeq (dIfS (dTest (dOp cGtI (dOp xAny (dVar 0) (dC (.int 0))) (dC (.int 0))))
  t_law_draw_1
  dNext)
  t_law_draw_6))
def sp_law_draw : SpD := fun ds G Q _ => ∃ (p : Addr) (m : Int) (N : Nat), ds = [.ref p, .int m] ∧ Feed G p N ∧ N ≤ 2 ^ 30 ∧ 0 < m ∧ m < 2 ^ 64 ∧
  ∀ r G', 0 ≤ r → r < m → Feed G' p (N + 1) → But p G G' → Q (.int r) G'
theorem len_law_draw : ∀ ds G Q E, sp_law_draw ds G Q E → ds.length = 2 := by rintro ds G Q E ⟨p, m, N, rfl, _⟩; rfl
theorem vc_law_draw : ∀ ds G Q EX, sp_law_draw ds G Q EX → t_law_draw { nx := fun _ G' => Q .non G', rt := Q, ex := fun x _ G' => EX x G' } (startD N_law_draw ds) G := by
  rintro ds G Q EX ⟨p, m, N, rfl, ⟨x, cs, k, n, hp, hx, hcs, hk, hn, hnN, hlen⟩, hN, hm, hm2, hq⟩
  show t_law_draw _ [some (D.ref p), some (D.int m), none, none, none, none] _
  unfold t_law_draw
  walk_at "d"
  refine st_ite (fun hx0 => ?_) (fun hx0 => ?_)
  · walk_at "d"
    refine st_oI (divW hm hm2) ?_
    walk_at "d"
    refine hq _ _ (Int.emod_nonneg _ (by omega)) (Int.emod_lt_of_pos _ hm) ⟨x / m, cs, k, n + 1, gput_same, Int.ediv_nonneg hx (by omega), hcs, hk, by omega, by omega, hlen⟩ ?_
    exact (But.put (But.put But.refl))
  · walk_at "d"
    refine st_eqP (Py.of (py_lstI cs)) (Py.of rfl) (shaped_lstI cs) (by decide) ?_
    walk_at "d"
    obtain ⟨b, eb⟩ : ∃ b : Int, b = (if PyData.eqv (.list (cs.map PyData.int)) (.list []) = true then 1 else 0) := ⟨_, rfl⟩
    rw [← eb]
    have hb : (b = 1 ∧ cs = []) ∨ (b = 0 ∧ cs ≠ []) := by
      rw [eb, eqv_lst_nil]
      cases cs with
      | nil => exact .inl ⟨rfl, rfl⟩
      | cons c r => exact .inr ⟨rfl, by simp⟩
    refine st_mulL (Ls.lst _) ⟨by omega, by omega⟩ (by rw [sizeLine_eq]; simp; omega) ?_
    obtain ⟨cl, e1, e2, e3, e4⟩ : ∃ cl : List Int, cs.map D.int ++ (List.replicate b.toNat [D.int 7]).flatten = cl.map D.int ∧ 0 < cl.length ∧ (∀ c, c ∈ cl → 0 ≤ c) ∧ cl.length ≤ 63 := by
      rcases hb with ⟨rfl, rfl⟩ | ⟨rfl, h⟩
      · exact ⟨[7], rfl, by decide, by simp, by decide⟩
      · refine ⟨cs, by simp, List.length_pos_iff.mpr h, hcs, hlen⟩
    refine st_addL (Ls.lst _) (Ls.lst _) ?_ ?_
    · have := congrArg List.length e1
      simp only [List.length_append, List.length_map] at this
      simp only [List.length_map]
      rw [sizeLine_eq]; omega
    rw [e1]
    walk_at "d"
    rw [List.length_map]
    refine st_oI (show (0 : Int) < (cl.length : Int) by omega) ?_
    obtain ⟨j, ej, hj⟩ : ∃ j : Nat, k % (cl.length : Int) = (j : Int) ∧ j < cl.length := ⟨(k % (cl.length : Int)).toNat, by
      have := Int.emod_nonneg k (show (cl.length : Int) ≠ 0 by omega); omega, by
      have := Int.emod_nonneg k (show (cl.length : Int) ≠ 0 by omega)
      have := Int.emod_lt_of_pos k (show (0 : Int) < (cl.length : Int) by omega); omega⟩
    refine st_ix (Sq.lst _) (atI_of (x := D.int cl[j]) ej (by rw [List.getElem?_map, List.getElem?_eq_getElem hj]; rfl)) ?_
    have hc0 := e3 _ (List.getElem_mem hj)
    generalize cl[j] = c at hc0
    walk_at "d"
    refine st_andP (k := decide (k + 1 ≤ (cl.length : Int))) (fun _ QT q => ?_) ?_
    · walk_at "d"
      rw [List.length_map]
      exact q
    generalize (decide (10 ^ Int.toNat 18 ≤ c) && decide (k + 1 ≤ (cl.length : Int))) = bb
    refine st_iteB (fun _ => ?_) (fun _ => ?_)
    · walk_at "d"
      refine st_oI (divW hm hm2) ?_
      walk_at "d"
      refine hq _ _ (Int.emod_nonneg _ (by omega)) (Int.emod_lt_of_pos _ hm) ⟨c / m, cs, k + 1, n + 1, gput_same, Int.ediv_nonneg hc0 (by omega), hcs, by omega, by omega, by omega, hlen⟩ ?_
      exact (But.put (But.put (But.put But.refl)))
    · walk_at "d"
      refine st_mulI (mulW64 (by decide) (by omega)) ?_
      walk_at "d"
      obtain ⟨y1, ey, hy1, hy2⟩ : ∃ y1 : Int, (c % 2147483629 + 99991 * (n + 1)) ^ Int.toNat 5 % 2305843009213693951 = y1 ∧ 0 ≤ y1 ∧ y1 < 2305843009213693951 :=
        ⟨_, rfl, Int.emod_nonneg _ (by decide), Int.emod_lt_of_pos _ (by decide)⟩
      rw [ey]
      refine st_mulI (mulW64 (by decide) (by omega)) ?_
      walk_at "d"
      refine st_oI (divW (by decide) (by decide)) ?_
      walk_at "d"
      exact hq _ _ (Int.emod_nonneg _ (by omega)) (Int.emod_lt_of_pos _ hm) ⟨x, cs, k + 1, n + 1, gput_same, hx, hcs, by omega, by omega, by omega, hlen⟩ (But.put (But.put But.refl))

theorem Feed.some {G : HH} {p : Addr} {N : Nat} (h : Feed G p N) : G p ≠ none := by
  obtain ⟨x, cs, k, n, h1, h2⟩ := h
  rw [h1]; simp
theorem Feed.ne {G : HH} {p q : Addr} {N : Nat} (h : Feed G p N) (e : G q = none) : p ≠ q := by
  intro z; exact h.some (z ▸ e)
theorem Feed.put {G : HH} {p q : Addr} {N : Nat} {o : HOD} (h : Feed G p N) (e : p ≠ q) : Feed (gput G q o) p N := h.at (gput_ne e)
theorem Feed.del {G : HH} {p q : Addr} {N : Nat} (h : Feed G p N) (e : p ≠ q) : Feed (gdel G q) p N := h.at (gdel_ne e)
theorem st_draw {G : HH} {Q : QD} {E : ED} {p : Addr} {m : Int} {N : Nat} (h : Feed G p N) (hN : N ≤ 2 ^ 30) (h0 : 0 < m) (h1 : m < 2 ^ 64) (k : ∀ (r : Nat) G', (r : Int) < m → Feed G' p (N + 1) → But p G G' → Q (.int (r : Int)) G') : sp_law_draw [.ref p, .int m] G Q E :=
  ⟨p, m, N, rfl, h, hN, h0, h1, fun r G' r0 r1 hd hb => by
    obtain ⟨j, rfl⟩ := Int.eq_ofNat_of_zero_le r0
    exact k j G' r1 hd hb⟩
/-- a comprehension over a range whose elements are drawn -/
theorem lc_feed {σ : SD} {G : HH} {Q : QD} {J : Nat} {g : Tgt} {te : TED} {vs : List Nat} {p : Addr} {N : Nat} (K : Nat) (P : D → Prop) (hd : Feed G p N) (hl : J ≤ sizeLine)
    (he : ∀ (a : Nat), a < J → ∀ (G' : HH) (M : Nat), Feed G' p M → M + K ≤ N + K * J → (∀ b, b ≠ p → G b ≠ none → G' b = G b) → ∃ σ2, g.put (.int (a : Int)) (wipeD σ vs) = some σ2 ∧
      ∀ Q' : QD, (∀ d G'', P d → Feed G'' p (M + K) → But p G' G'' → Q' d G'') → te σ2 G' Q' (fun _ _ => False))
    (hq : ∀ ds G', ds.length = J → (∀ d ∈ ds, P d) → Feed G' p (N + K * J) → But p G G' → Q (.lst ds) G') : LcG true (rgItems 0 J) okT g dYes te vs σ G Q := by
  have e : rgItems 0 J = (List.range J).map fun a : Nat => D.int (a : Int) := by
    unfold rgItems
    refine List.map_congr_left fun a _ => ?_
    rw [Int.zero_add]
  rw [e]
  refine lc_dr (fun G M => Feed G p M) (fun e h => h.at e) (fun h => h.some) K P hd (fun _ _ => trivial) (by rw [List.length_range]; exact hl) (fun a ha G' M h1 h2 h3 => he a (List.mem_range.mp ha) G' M h1 (by rw [List.length_range] at h2; exact h2) h3) (fun ds G' h1 h2 h3 h4 => hq ds G' (by rw [List.length_range] at h1; exact h1) h2 (by rw [List.length_range] at h3; exact h3) h4)


/-! ### one of some -/
def N_law_one : List Str := ["_law_feed_here", "_law_items"]
def t_law_one : TSD := (dRet (dOp xAny (dVar 1) (dCall sp_law_draw (dCons (dVar 0) (dCons (dCB kLen (dCons (dVar 1) dNil)) dNil)))))
def sp_law_one : SpD := fun ds G Q _ => ∃ (p : Addr) (x : D) (xs : List D) (N : Nat), ds = [.ref p, x] ∧ Feed G p N ∧ N ≤ 2 ^ 30 ∧ 0 < xs.length ∧ xs.length < 2 ^ 60 ∧ (∀ G', But p G G' → Sq G' x xs) ∧
  ∀ d G', d ∈ xs → Feed G' p (N + 1) → But p G G' → Q d G'
theorem len_law_one : ∀ ds G Q E, sp_law_one ds G Q E → ds.length = 2 := by rintro ds G Q E ⟨p, m, N, xs, rfl, _⟩; rfl
theorem vc_law_one : ∀ ds G Q EX, sp_law_one ds G Q EX → t_law_one { nx := fun _ G' => Q .non G', rt := Q, ex := fun x _ G' => EX x G' } (startD N_law_one ds) G := by
  rintro ds G Q EX ⟨p, x, xs, N, rfl, hd, hN, h0, h1, hs, hq⟩
  show t_law_one _ [some (D.ref p), some x] _
  unfold t_law_one
  walk_at "d"
  refine st_len (hs _ But.refl) ?_
  walk_at "d"
  refine ⟨p, xs.length, N, rfl, hd, hN, by omega, by omega, fun r G' r0 r1 hd' hb => ?_⟩
  obtain ⟨j, rfl⟩ := Int.eq_ofNat_of_zero_le r0
  have hj : j < xs.length := by omega
  exact st_ix (hs _ hb) (atI_nat (List.getElem?_eq_getElem hj)) (hq _ _ (List.getElem_mem hj) hd' hb)
theorem st_oneL {G : HH} {Q : QD} {E : ED} {p : Addr} {xs : List D} {N : Nat} (h : Feed G p N) (hN : N ≤ 2 ^ 30) (h0 : 0 < xs.length ∧ xs.length < 2 ^ 60) (k : ∀ d G', d ∈ xs → Feed G' p (N + 1) → But p G G' → Q d G') : sp_law_one [.ref p, .lst xs] G Q E :=
  ⟨p, _, xs, N, rfl, h, hN, h0.1, h0.2, fun _ _ => .lst xs, k⟩
theorem st_oneM {α : Type} {c : α → D} {l : List α} {G : HH} {Q : QD} {E : ED} {p : Addr} {N : Nat} (h : Feed G p N) (hN : N ≤ 2 ^ 30) (h0 : 0 < l.length ∧ l.length < 2 ^ 60) (k : ∀ a G', a ∈ l → Feed G' p (N + 1) → But p G G' → Q (c a) G') : sp_law_one [.ref p, .lst (l.map c)] G Q E :=
  st_oneL h hN (by rw [List.length_map]; exact h0) fun d G' hd h1 h2 => by
    obtain ⟨a, ha, rfl⟩ := List.mem_map.mp hd
    exact k a G' ha h1 h2

/-! ### texts in rows of texts -/
theorem scs_strs : ∀ l : List Str, scs (l.map D.str) = some (l.map V.str)
  | [] => rfl
  | x :: l => by simp [scs, D.sc, scs_strs l]
theorem inV_strs (a : Str) : ∀ l : List Str, inV (.str a) (l.map V.str) = decide (a ∈ l)
  | [] => rfl
  | x :: l => by
    have ih := inV_strs a l
    unfold inV at ih ⊢
    rw [List.map_cons, List.any_cons, ih]
    show ((x == a) || _) = _
    by_cases h : x = a
    · subst h; simp
    · have h' : ¬ a = x := fun z => h z.symm
      simp [h, h']
theorem st_inT {G : HH} {Q : QD} {a : Str} {y : D} {l : List Str} (h : Sq G y (l.map D.str)) (q : Q (.bl (decide (a ∈ l))) G) : iAny false (.str a) y G Q :=
  .inl ⟨_, _, _, h, rfl, scs_strs l, by rw [if_neg Bool.false_ne_true, inV_strs]; exact q⟩
theorem st_notInT {G : HH} {Q : QD} {a : Str} {y : D} {l : List Str} (h : Sq G y (l.map D.str)) (q : Q (.bl (!decide (a ∈ l))) G) : iAny true (.str a) y G Q :=
  .inl ⟨_, _, _, h, rfl, scs_strs l, by rw [if_pos rfl, inV_strs]; exact q⟩
theorem st_inS1 {G : HH} {Q : QD} {x a0 : Str} (q : Q (.bl (decide (x ∈ ([a0] : List Str)))) G) : iAny false (.str x) (.tup [.str a0]) G Q := st_inT (l := [a0]) (.tup _) q
theorem st_notInS1 {G : HH} {Q : QD} {x a0 : Str} (q : Q (.bl (!decide (x ∈ ([a0] : List Str)))) G) : iAny true (.str x) (.tup [.str a0]) G Q := st_notInT (l := [a0]) (.tup _) q
theorem st_inS2 {G : HH} {Q : QD} {x a0 a1 : Str} (q : Q (.bl (decide (x ∈ ([a0, a1] : List Str)))) G) : iAny false (.str x) (.tup [.str a0, .str a1]) G Q := st_inT (l := [a0, a1]) (.tup _) q
theorem st_notInS2 {G : HH} {Q : QD} {x a0 a1 : Str} (q : Q (.bl (!decide (x ∈ ([a0, a1] : List Str)))) G) : iAny true (.str x) (.tup [.str a0, .str a1]) G Q := st_notInT (l := [a0, a1]) (.tup _) q
theorem st_inS3 {G : HH} {Q : QD} {x a0 a1 a2 : Str} (q : Q (.bl (decide (x ∈ ([a0, a1, a2] : List Str)))) G) : iAny false (.str x) (.tup [.str a0, .str a1, .str a2]) G Q := st_inT (l := [a0, a1, a2]) (.tup _) q
theorem st_notInS3 {G : HH} {Q : QD} {x a0 a1 a2 : Str} (q : Q (.bl (!decide (x ∈ ([a0, a1, a2] : List Str)))) G) : iAny true (.str x) (.tup [.str a0, .str a1, .str a2]) G Q := st_notInT (l := [a0, a1, a2]) (.tup _) q
theorem st_inS4 {G : HH} {Q : QD} {x a0 a1 a2 a3 : Str} (q : Q (.bl (decide (x ∈ ([a0, a1, a2, a3] : List Str)))) G) : iAny false (.str x) (.tup [.str a0, .str a1, .str a2, .str a3]) G Q := st_inT (l := [a0, a1, a2, a3]) (.tup _) q
theorem st_notInS4 {G : HH} {Q : QD} {x a0 a1 a2 a3 : Str} (q : Q (.bl (!decide (x ∈ ([a0, a1, a2, a3] : List Str)))) G) : iAny true (.str x) (.tup [.str a0, .str a1, .str a2, .str a3]) G Q := st_notInT (l := [a0, a1, a2, a3]) (.tup _) q
theorem st_inS5 {G : HH} {Q : QD} {x a0 a1 a2 a3 a4 : Str} (q : Q (.bl (decide (x ∈ ([a0, a1, a2, a3, a4] : List Str)))) G) : iAny false (.str x) (.tup [.str a0, .str a1, .str a2, .str a3, .str a4]) G Q := st_inT (l := [a0, a1, a2, a3, a4]) (.tup _) q
theorem st_notInS5 {G : HH} {Q : QD} {x a0 a1 a2 a3 a4 : Str} (q : Q (.bl (!decide (x ∈ ([a0, a1, a2, a3, a4] : List Str)))) G) : iAny true (.str x) (.tup [.str a0, .str a1, .str a2, .str a3, .str a4]) G Q := st_notInT (l := [a0, a1, a2, a3, a4]) (.tup _) q
theorem st_inS6 {G : HH} {Q : QD} {x a0 a1 a2 a3 a4 a5 : Str} (q : Q (.bl (decide (x ∈ ([a0, a1, a2, a3, a4, a5] : List Str)))) G) : iAny false (.str x) (.tup [.str a0, .str a1, .str a2, .str a3, .str a4, .str a5]) G Q := st_inT (l := [a0, a1, a2, a3, a4, a5]) (.tup _) q
theorem st_notInS6 {G : HH} {Q : QD} {x a0 a1 a2 a3 a4 a5 : Str} (q : Q (.bl (!decide (x ∈ ([a0, a1, a2, a3, a4, a5] : List Str)))) G) : iAny true (.str x) (.tup [.str a0, .str a1, .str a2, .str a3, .str a4, .str a5]) G Q := st_notInT (l := [a0, a1, a2, a3, a4, a5]) (.tup _) q

/-! more short ways -/
local macro_rules | `(tactic| walk_at "d1") => `(tactic| first | walk_at "b1" | walk_at "x1" | walk_at "z1")
local macro_rules | `(tactic| walk_at "ev") => `(tactic| (intro Qe Ee qe; (repeat walk_at "d1"); exact qe))
local macro_rules | `(tactic| walk_at "evh") => `(tactic| (intro he Qe Ee qe; (repeat walk_at "d1"); exact qe))
local macro_rules | `(tactic| walk_at "x1") => `(tactic| first
  | ((with_reducible refine' st_andE ?w1 ?w2 ?w3); (case w1 => walk_at "ev"); (case w2 => walk_at "evh"))
  | ((with_reducible refine' st_orE ?w1 ?w2 ?w3); (case w1 => walk_at "ev"); (case w2 => walk_at "evh"))
  | ((with_reducible refine' st_andVE ?w1 ?w2 ?w3); (case w1 => walk_at "ev"); (case w2 => walk_at "evh"))
  | ((with_reducible refine' st_orVE ?w1 ?w2 ?w3); (case w1 => walk_at "ev"); (case w2 => walk_at "evh"))
  | ((with_reducible refine' st_ifE D.int ?w1 ?w2 ?w3 ?w4); (case w1 => walk_at "ev"); (case w2 => walk_at "evh"); (case w3 => walk_at "evh"))
  | ((with_reducible refine' st_ifE D.str ?w1 ?w2 ?w3 ?w4); (case w1 => walk_at "ev"); (case w2 => walk_at "evh"); (case w3 => walk_at "evh"))
  | ((with_reducible refine' st_ifE D.bl ?w1 ?w2 ?w3 ?w4); (case w1 => walk_at "ev"); (case w2 => walk_at "evh"); (case w3 => walk_at "evh"))
  | ((with_reducible refine' st_ifE D.tup ?w1 ?w2 ?w3 ?w4); (case w1 => walk_at "ev"); (case w2 => walk_at "evh"); (case w3 => walk_at "evh"))
  | ((with_reducible refine' st_addLm ?w1 ?w2); (case w1 => walk_at "sz"))
  | ((with_reducible refine' st_addTm ?w1 ?w2); (case w1 => walk_at "sz"))
  | with_reducible refine st_lenLm ?_ | with_reducible refine st_lenTm ?_ | with_reducible refine st_lenWm ?_ | with_reducible refine st_tyS ?_ | with_reducible refine st_strq ?_ | walk_at "isi"
  | ((with_reducible refine' st_chainE ?w1 ?w2 ?w3 ?w4 ?w5 ?w6); (case w1 => walk_at "ev"); (case w2 => walk_at "ev"); (case w3 => walk_at "ev"); (case w4 => (intro Qe qe; walk_at "d1"; exact qe)); (case w5 => (intro he Qe qe; walk_at "d1"; exact qe))) | with_reducible refine st_neLI ?_ | with_reducible refine st_eqLI ?_ | with_reducible refine st_bits ?_ | with_reducible refine st_callV ?_ | with_reducible refine st_new ?_ | with_reducible refine st_insQ ?_ | with_reducible refine st_methV ?_ | with_reducible refine st_mkK ?_
  | with_reducible refine st_mulB ?_ | with_reducible refine st_reprB ?_ | ((with_reducible refine' st_reprI ?w1 ?w2); (case w1 => omega))
  | ((with_reducible refine' st_inT ?w1 ?w2); (case w1 => walk_at "sq"))
  | ((with_reducible refine' st_notInT ?w1 ?w2); (case w1 => walk_at "sq")))
local macro_rules | `(tactic| walk_at "x1") => `(tactic| first | with_reducible refine st_prs ?_ | with_reducible refine st_eqB ?_ | with_reducible refine st_neB ?_ | with_reducible refine st_prn ?_ | with_reducible refine st_methVK ?_)
local macro_rules | `(tactic| walk_at "x1") => `(tactic| first | with_reducible refine st_ne00 ?_ | with_reducible refine st_eq00 ?_)
local macro_rules | `(tactic| walk_at "x1") => `(tactic| first | with_reducible refine st_inS1 ?_ | with_reducible refine st_notInS1 ?_ | with_reducible refine st_inS2 ?_ | with_reducible refine st_notInS2 ?_ | with_reducible refine st_inS3 ?_ | with_reducible refine st_notInS3 ?_ | with_reducible refine st_inS4 ?_ | with_reducible refine st_notInS4 ?_ | with_reducible refine st_inS5 ?_ | with_reducible refine st_notInS5 ?_ | with_reducible refine st_inS6 ?_ | with_reducible refine st_notInS6 ?_)
local macro_rules | `(tactic| walk_at "x1") => `(tactic| first | with_reducible refine st_tryA ?_ | with_reducible refine st_tryO ?_ | with_reducible refine st_excF ?_ | with_reducible refine st_iEn ?_ | with_reducible refine st_enT ?_ | ((with_reducible refine' st_enL ?k1 ?k2); (case k1 => walk_at "sq")) | with_reducible refine st_rev ?_ | with_reducible refine st_revT ?_ | ((with_reducible refine' st_revL ?k1 ?k2); (case k1 => walk_at "sq")))
local macro_rules | `(tactic| walk_at "ok") => `(tactic| first | exact fun _ _ _ => trivial | exact fun _ _ _ => LsW.lst _ | exact fun _ _ _ => LsW.wls _ | exact fun _ _ hp => ok_put hp (by walk_at "sq"))
local macro_rules | `(tactic| walk_at "put1") => `(tactic| (refine ⟨_, rfl, ?_⟩; dsimp only [wipeD, Tgt.put, putL, Option.bind, List.set]))
local macro_rules | `(tactic| walk_at "el") => `(tactic| (intro ea eha ep eacc ehp; walk_at "put1"; walk_at "ev"))
local macro_rules | `(tactic| walk_at "el2") => `(tactic| (intro ea eha ep eacc ehp; walk_at "put1"; (refine' ⟨?wa, ?wb⟩); (case wa => walk_at "ev"); (case wb => walk_at "evh")))
local macro_rules | `(tactic| walk_at "lc") => `(tactic| first
  | ((with_reducible refine' lc_evYK D.str ?w1 ?w2 ?w3 ?w4); (case w1 => walk_at "ok"); (case w2 => walk_at "sz"); (case w3 => walk_at "el"))
  | ((with_reducible refine' lc_evYK D.bl ?w1 ?w2 ?w3 ?w4); (case w1 => walk_at "ok"); (case w2 => walk_at "sz"); (case w3 => walk_at "el"))
  | ((with_reducible refine' lc_evYK D.int ?w1 ?w2 ?w3 ?w4); (case w1 => walk_at "ok"); (case w2 => walk_at "sz"); (case w3 => walk_at "el"))
  | ((with_reducible refine' lc_evY ?w1 ?w2 ?w3 ?w4); (case w1 => walk_at "ok"); (case w2 => walk_at "sz"); (case w3 => walk_at "el"))
  | ((with_reducible refine' lc_evK D.str ?w1 ?w2 ?w3 ?w4); (case w1 => walk_at "ok"); (case w2 => walk_at "sz"); (case w3 => walk_at "el2"))
  | ((with_reducible refine' lc_evK D.bl ?w1 ?w2 ?w3 ?w4); (case w1 => walk_at "ok"); (case w2 => walk_at "sz"); (case w3 => walk_at "el2"))
  | ((with_reducible refine' lc_evK D.int ?w1 ?w2 ?w3 ?w4); (case w1 => walk_at "ok"); (case w2 => walk_at "sz"); (case w3 => walk_at "el2"))
  | ((with_reducible refine' lc_ev ?w1 ?w2 ?w3 ?w4); (case w1 => walk_at "ok"); (case w2 => walk_at "sz"); (case w3 => walk_at "el2")))
local macro_rules | `(tactic| walk_at "lcs") => `(tactic| first
  | refine lc_of [_, _, _, _] D.str rfl ?_ | refine lc_of [_, _] D.str rfl ?_ | refine lc_of [_, _, _] D.str rfl ?_ | refine lc_of [_] D.str rfl ?_
  | refine lc_of [_, _, _, _] D.int rfl ?_ | refine lc_of [_, _] D.int rfl ?_ | refine lc_of [_, _, _] D.int rfl ?_ | refine lc_of [_] D.int rfl ?_ | with_reducible refine lc_rg ?_)
local macro_rules | `(tactic| walk_at "x1") => `(tactic| ((with_reducible refine lc_mark ?_); first
  | walk_at "lc" | (walk_at "lcs"; walk_at "lc")); (try simp only [List.map_id']))
local macro_rules | `(tactic| walk_at "isi") => `(tactic| ((with_reducible refine st_isim ?_); first
  | ((with_reducible refine' st_isiI (b := true) ?w1 ?w2); (case w1 => with_unfolding_all rfl))
  | ((with_reducible refine' st_isiB (b := true) ?w1 ?w2); (case w1 => with_unfolding_all rfl))
  | ((with_reducible refine' st_isiS (b := true) ?w1 ?w2); (case w1 => with_unfolding_all rfl))
  | ((with_reducible refine' st_isiN (b := true) ?w1 ?w2); (case w1 => with_unfolding_all rfl))
  | ((with_reducible refine' st_isiT (b := true) ?w1 ?w2); (case w1 => with_unfolding_all rfl))
  | ((with_reducible refine' st_isiL (b := true) ?w1 ?w2); (case w1 => with_unfolding_all rfl))
  | ((with_reducible refine' st_isiI (b := false) ?w1 ?w2); (case w1 => with_unfolding_all rfl))
  | ((with_reducible refine' st_isiB (b := false) ?w1 ?w2); (case w1 => with_unfolding_all rfl))
  | ((with_reducible refine' st_isiS (b := false) ?w1 ?w2); (case w1 => with_unfolding_all rfl))
  | ((with_reducible refine' st_isiN (b := false) ?w1 ?w2); (case w1 => with_unfolding_all rfl))
  | ((with_reducible refine' st_isiT (b := false) ?w1 ?w2); (case w1 => with_unfolding_all rfl))
  | ((with_reducible refine' st_isiL (b := false) ?w1 ?w2); (case w1 => with_unfolding_all rfl))))
-- the start of a walk: walk_at "go NAME"
local macro_rules | `(tactic| walk_at $s:str) => do
  let t := s.getString
  if t.startsWith "go " then
    let x := (t.drop 3).toString
    let a := Lean.mkIdent (Lean.Name.mkSimple ("t_" ++ x))
    let n := Lean.mkIdent (Lean.Name.mkSimple ("N_" ++ x))
    `(tactic| (simp only [startD, $n:ident, List.map_cons, List.map_nil, List.length_cons, List.length_nil, List.cons_append, List.nil_append, List.replicate, Nat.reduceAdd, Nat.reduceSub]; unfold $a; walk_at "d"))
  else if t.startsWith "gi " then
    let x := (t.drop 3).toString
    let a := Lean.mkIdent (Lean.Name.mkSimple ("t_" ++ x))
    let n := Lean.mkIdent (Lean.Name.mkSimple ("N_" ++ x))
    `(tactic| (simp only [startD, $n:ident, List.map_cons, List.map_nil, List.length_cons, List.length_nil, List.cons_append, List.nil_append, List.replicate, Nat.reduceAdd, Nat.reduceSub]; unfold $a; walk_at "di"))
  else Lean.Macro.throwUnsupported
local macro_rules | `(tactic| walk_at "sl") => `(tactic| (dsimp only [setL, List.set]; walk_at "d"))
local macro_rules | `(tactic| walk_at "fin") => `(tactic| refine fin_set rfl ?_)
local macro_rules | `(tactic| walk_at "di") => `(tactic| repeat ((fail_if_success (with_reducible refine st_ifS ?_)); walk_at "d1"))
local macro_rules | `(tactic| walk_at "nope") => `(tactic| refine st_iteF' (by simp [*]) ?_)
local macro_rules | `(tactic| walk_at "yep") => `(tactic| refine st_iteT' (by simp [*]) ?_)

/-! ### any values: numbers, truths, None, texts, tuples and lists of such -/
mutual
def av (b : Nat) : Nat → D → Prop
  | _, .non => True
  | _, .bl _ => True
  | _, .int i => i.natAbs < b
  | _, .str x => PyData.strOk x = true
  | n + 1, .tup xs => avs b n xs
  | n + 1, .lst xs => avs b n xs
  | _, _ => False
def avs (b : Nat) : Nat → List D → Prop
  | _, [] => True
  | n, x :: xs => av b n x ∧ avs b n xs
end
mutual
theorem av_mono {b c n m : Nat} (hb : b ≤ c) (h : n ≤ m) : ∀ d : D, av b n d → av c m d
  | .non, _ => by cases m <;> simp [av]
  | .bl _, _ => by cases m <;> simp [av]
  | .int _, g => by cases n <;> cases m <;> simp only [av] at g ⊢ <;> omega
  | .str _, g => by cases n <;> cases m <;> simpa only [av] using g
  | .tup xs, g => by
    cases n with
    | zero => simp [av] at g
    | succ n =>
      cases m with
      | zero => omega
      | succ m => simp only [av] at g ⊢; exact avs_mono hb (by omega) xs g
  | .lst xs, g => by
    cases n with
    | zero => simp [av] at g
    | succ n =>
      cases m with
      | zero => omega
      | succ m => simp only [av] at g ⊢; exact avs_mono hb (by omega) xs g
  | .wls _, g => by cases n <;> simp [av] at g
  | .obj _ _ _, g => by cases n <;> simp [av] at g
  | .dct _ _, g => by cases n <;> simp [av] at g
  | .ref _, g => by cases n <;> simp [av] at g
  | .ty _, g => by cases n <;> simp [av] at g
  | .gv _, g => by cases n <;> simp [av] at g
  | .xe _ _ _ _, g => by cases n <;> simp [av] at g
theorem avs_mono {b c n m : Nat} (hb : b ≤ c) (h : n ≤ m) : ∀ ds : List D, avs b n ds → avs c m ds
  | [], _ => by simp [avs]
  | d :: ds, g => by
    simp only [avs] at g ⊢
    exact ⟨av_mono hb h d g.1, avs_mono hb h ds g.2⟩
end
mutual
theorem av_gd {b k : Nat} (hb : b ≤ 2 ^ k) : ∀ (n : Nat) (d : D), av b n d → gd n d ∧ sm k d
  | n, .non, _ => by cases n <;> simp [gd, sm]
  | n, .bl _, _ => by cases n <;> simp [gd, sm]
  | n, .int _, g => by cases n <;> simp only [av] at g <;> simp only [gd, sm] <;> exact ⟨trivial, Nat.lt_of_lt_of_le g hb⟩
  | n, .str _, g => by cases n <;> simp only [av] at g <;> simp only [gd, sm] <;> exact ⟨g, trivial⟩
  | 0, .tup _, g => by simp [av] at g
  | 0, .lst _, g => by simp [av] at g
  | n + 1, .tup xs, g => by simp only [av] at g; simp only [gd, sm]; exact avs_gd hb n xs g
  | n + 1, .lst xs, g => by simp only [av] at g; simp only [gd, sm]; exact avs_gd hb n xs g
  | n, .wls _, g => by cases n <;> simp [av] at g
  | n, .obj _ _ _, g => by cases n <;> simp [av] at g
  | n, .dct _ _, g => by cases n <;> simp [av] at g
  | n, .ref _, g => by cases n <;> simp [av] at g
  | n, .ty _, g => by cases n <;> simp [av] at g
  | n, .gv _, g => by cases n <;> simp [av] at g
  | n, .xe _ _ _ _, g => by cases n <;> simp [av] at g
theorem avs_gd {b k : Nat} (hb : b ≤ 2 ^ k) : ∀ (n : Nat) (ds : List D), avs b n ds → gds n ds ∧ sms k ds
  | n, [], _ => by simp [gds, sms]
  | n, d :: ds, g => by
    simp only [avs] at g
    simp only [gds, sms]
    have a := av_gd hb n d g.1
    have b := avs_gd hb n ds g.2
    exact ⟨⟨a.1, b.1⟩, a.2, b.2⟩
end
theorem avs_mem {b n : Nat} {d : D} : ∀ {ds : List D}, avs b n ds → d ∈ ds → av b n d
  | x :: xs, h, hm => by
    simp only [avs] at h
    rcases List.mem_cons.mp hm with rfl | hm
    · exact h.1
    · exact avs_mem h.2 hm
theorem avs_of {b n : Nat} : ∀ {ds : List D}, (∀ d ∈ ds, av b n d) → avs b n ds
  | [], _ => by simp [avs]
  | x :: xs, h => by simp only [avs]; exact ⟨h x (by simp), avs_of fun d hd => h d (by simp [hd])⟩
theorem bulk_pos (d : D) : 1 ≤ d.bulk := by cases d <;> simp [D.bulk]
theorem bulks_app : ∀ (xs ys : List D), bulks (xs ++ ys) = bulks xs + bulks ys
  | [], ys => by simp [bulks]
  | x :: xs, ys => by simp only [List.cons_append, bulks, bulks_app xs ys]; omega
theorem bulks_len : ∀ (xs : List D), 2 * xs.length ≤ bulks xs
  | [] => by simp
  | x :: xs => by
    have := bulks_len xs
    have := bulk_pos x
    simp only [bulks, List.length_cons]; omega
theorem bulks_mem {d : D} : ∀ {xs : List D}, d ∈ xs → d.bulk ≤ bulks xs
  | x :: xs, hm => by
    simp only [bulks]
    rcases List.mem_cons.mp hm with rfl | hm
    · omega
    · have := bulks_mem hm; omega
theorem bulks_sub {xs ys : List D} (h : List.Sublist xs ys) : bulks xs ≤ bulks ys := by
  induction h with
  | slnil => exact Nat.le_refl _
  | cons a _ ih => simp only [bulks]; omega
  | cons_cons a _ ih => simp only [bulks]; omega
theorem bulks_le_of {K : Nat} : ∀ {xs : List D}, (∀ d ∈ xs, d.bulk ≤ K) → bulks xs ≤ (K + 1) * xs.length
  | [], _ => by simp [bulks]
  | x :: xs, h => by
    have := h x (by simp)
    have := bulks_le_of (xs := xs) fun d hd => h d (by simp [hd])
    simp only [bulks, List.length_cons, Nat.mul_add]; omega
/-- any value, of depth n, its ints below b, and of such a bulk -/
structure Av (b n B : Nat) (d : D) : Prop where
  a : av b n d
  z : d.bulk ≤ B
theorem Av.mono {b c n m B C : Nat} {d : D} (h : Av b n B d) (k : b ≤ c) (l : n ≤ m) (j : B ≤ C) : Av c m C d := ⟨av_mono k l d h.a, Nat.le_trans h.z j⟩
theorem Av.rpr {b n B : Nat} {d : D} (h : Av b n B d) (hb : b ≤ 2 ^ 200) (l : n ≤ 60) : Rpr 200 B d := ⟨gd_mono l d (av_gd hb n d h.a).1, (av_gd hb n d h.a).2, h.z⟩
theorem Av.mem {b n B : Nat} {xs : List D} {d : D} (h : Av b (n + 1) B (.tup xs)) (m : d ∈ xs) : Av b n B d := by
  obtain ⟨a, z⟩ := h
  simp only [av] at a
  simp only [D.bulk] at z
  exact ⟨avs_mem a m, Nat.le_trans (bulks_mem m) (by omega)⟩
theorem Av.len {b n B : Nat} {xs : List D} (h : Av b n B (.tup xs)) : xs.length ≤ B := by
  have := h.z
  have := bulks_len xs
  simp only [D.bulk] at *
  omega
theorem Av.tup {b n B : Nat} {xs : List D} (h : ∀ d ∈ xs, av b n d) (l : bulks xs + 1 ≤ B) : Av b (n + 1) B (.tup xs) := ⟨by simp only [av]; exact avs_of h, by simpa only [D.bulk] using l⟩
theorem Av.lst {b n B : Nat} {xs : List D} (h : ∀ d ∈ xs, av b n d) (l : bulks xs + 1 ≤ B) : Av b (n + 1) B (.lst xs) := ⟨by simp only [av]; exact avs_of h, by simpa only [D.bulk] using l⟩
theorem Av.gds {b n B k : Nat} {xs : List D} (h : Av b n B (.tup xs)) (hb : b ≤ 2 ^ k) (l : n ≤ 60) : DL.gds 59 xs := by
  have := gd_mono l _ (av_gd hb n _ h.a).1
  rwa [gd_tup] at this
theorem av_items {b n : Nat} {xs : List D} (h : av b (n + 1) (.tup xs)) : ∀ d ∈ xs, av b n d := fun d m => avs_mem (by simpa only [av] using h) m
/-- what the walks ask of a value -/
abbrev Ok (d : D) : Prop := Av (2 ^ 1800) 40 70000 d
theorem Ok.mem {xs : List D} {d : D} (h : Ok (.tup xs)) (m : d ∈ xs) : Ok d := (Av.mem (n := 39) h m).mono (Nat.le_refl _) (by decide) (Nat.le_refl _)
theorem Ok.gds {xs : List D} (h : Ok (.tup xs)) : DL.gds 59 xs := Av.gds h (Nat.le_refl _) (by decide)
theorem Ok.split {d : D} (h : Ok d) : d = .non ∨ (∃ b, d = .bl b) ∨ (∃ i, d = .int i) ∨ (∃ x, d = .str x) ∨ (∃ xs, d = .lst xs) ∨ ∃ xs, d = .tup xs := by
  have a := h.a
  cases d with
  | non => exact .inl rfl
  | bl b => exact .inr (.inl ⟨b, rfl⟩)
  | int i => exact .inr (.inr (.inl ⟨i, rfl⟩))
  | str x => exact .inr (.inr (.inr (.inl ⟨x, rfl⟩)))
  | lst xs => exact .inr (.inr (.inr (.inr (.inl ⟨xs, rfl⟩))))
  | tup xs => exact .inr (.inr (.inr (.inr (.inr ⟨xs, rfl⟩))))
  | _ => simp [av] at a
/-- a tuple by its length -/
theorem two_split (xs : List D) : (∃ a b, xs = [a, b]) ∨ ((xs.length : Int) ≠ 2 ∧ ∀ a b, xs ≠ [a, b]) := by
  match xs with
  | [] => exact .inr ⟨by simp, by simp⟩
  | [_] => exact .inr ⟨by simp, by simp⟩
  | [a, b] => exact .inl ⟨a, b, rfl⟩
  | _ :: _ :: _ :: l => exact .inr ⟨by simp only [List.length_cons]; omega, by simp⟩
theorem three_split (xs : List D) : (∃ a b c, xs = [a, b, c]) ∨ ((xs.length : Int) ≠ 3 ∧ ∀ a b c, xs ≠ [a, b, c]) := by
  match xs with
  | [] => exact .inr ⟨by simp, by simp⟩
  | [_] => exact .inr ⟨by simp, by simp⟩
  | [_, _] => exact .inr ⟨by simp, by simp⟩
  | [a, b, c] => exact .inl ⟨a, b, c, rfl⟩
  | _ :: _ :: _ :: _ :: l => exact .inr ⟨by simp only [List.length_cons]; omega, by simp⟩
theorem gds_filter {n : Nat} {k : D → Bool} : ∀ {xs : List D}, gds n xs → gds n (xs.filter k)
  | [], _ => by simp [gds]
  | x :: xs, h => by
    simp only [gds] at h
    rw [List.filter_cons]
    split
    · simp only [gds]; exact ⟨h.1, gds_filter h.2⟩
    · exact gds_filter h.2
theorem filter_none {α : Type} (p : α → Bool) : ∀ xs : List α, (xs.filter fun x => !p x).isEmpty = xs.all p
  | [] => rfl
  | x :: xs => by
    rw [List.filter_cons, List.all_cons]
    cases p x
    · simp
    · simpa using filter_none p xs
section
variable {ok : HH → Prop} {tt : TTD} {te : TED} {vs : List Nat} {σ : SD} {G : HH} {Q : QD} {g : Tgt}
/-- [x for x in xs if ..] == [] -/
theorem lc_pick {xs : List D} (k : D → Bool) (hok : ∀ p acc, G p = none → ok (gput G p (.lst acc))) (hl : xs.length ≤ sizeLine)
    (hs : ∀ a, a ∈ xs → ∀ p acc, G p = none → ∃ σ2, g.put a (wipeD σ vs) = some σ2 ∧ EvT tt σ2 (gput G p (.lst acc)) (k a) ∧ EvE te σ2 (gput G p (.lst acc)) a)
    (hq : Q (.lst (xs.filter k)) G) : LcG true xs ok g tt te vs σ G Q :=
  lc_of xs id (List.map_id xs).symm (lc_ev (k := k) (f := id) hok hl (fun a ha p acc hp => by
    obtain ⟨σ2, h1, h2, h3⟩ := hs a ha p acc hp
    exact ⟨σ2, h1, h2, fun _ => h3⟩) (by rw [List.map_id]; exact hq))
/-- [f(x) for x in xs], truths -/
theorem lc_truths {xs : List D} (k : D → Bool) (hok : ∀ p acc, G p = none → ok (gput G p (.lst acc))) (hl : xs.length ≤ sizeLine)
    (hs : ∀ a, a ∈ xs → ∀ p acc, G p = none → ∃ σ2, g.put a (wipeD σ vs) = some σ2 ∧ EvE te σ2 (gput G p (.lst acc)) (.bl (k a)))
    (hq : Q (.lst ((xs.map k).map D.bl)) G) : LcG true xs ok g dYes te vs σ G Q :=
  lc_of xs id (List.map_id xs).symm (lc_evYK D.bl (f := k) hok hl hs hq)
theorem st_allB {bs : List Bool} (q : Q (.bl (bs.all id)) G) : kAll [.lst (bs.map D.bl)] G Q := ⟨_, rfl, bs, .lst _, q⟩
def NoneQ (neg : Bool) (x : D) (G : HH) (Q : QD) : Prop := ∃ k, (k = true → x = .non) ∧ (x = .non → k = true) ∧ Q (.bl (if neg then !k else k)) G
theorem st_isNq {neg : Bool} {ta : TED} {E : ED} (h : ta σ G (fun x G1 => NoneQ neg x G1 Q) E) : isN neg ta σ G Q E := h
theorem isN_int0 {i : Int} (q : Q (.bl false) G) : NoneQ false (.int i) G Q := ⟨false, nofun, nofun, q⟩
theorem isN_int1 {i : Int} (q : Q (.bl true) G) : NoneQ true (.int i) G Q := ⟨false, nofun, nofun, q⟩
theorem isN_non0 (q : Q (.bl true) G) : NoneQ false .non G Q := ⟨true, fun _ => rfl, fun _ => rfl, q⟩
theorem isN_non1 (q : Q (.bl false) G) : NoneQ true .non G Q := ⟨true, fun _ => rfl, fun _ => rfl, q⟩
theorem isi_non_tuple (q : Q (.bl false) G) : kIsi [.non, .ty "tuple"] G Q := st_isi (b := false) (by constructor) (by with_unfolding_all rfl) q
theorem isi_non_int (q : Q (.bl false) G) : kIsi [.non, .ty "int"] G Q := st_isi (b := false) (by constructor) (by with_unfolding_all rfl) q
theorem isi_non_bool (q : Q (.bl false) G) : kIsi [.non, .ty "bool"] G Q := st_isi (b := false) (by constructor) (by with_unfolding_all rfl) q
theorem isi_non_str (q : Q (.bl false) G) : kIsi [.non, .ty "str"] G Q := st_isi (b := false) (by constructor) (by with_unfolding_all rfl) q
theorem isi_non_list (q : Q (.bl false) G) : kIsi [.non, .ty "list"] G Q := st_isi (b := false) (by constructor) (by with_unfolding_all rfl) q
theorem isi_bl_tuple {b : Bool} (q : Q (.bl false) G) : kIsi [.bl b, .ty "tuple"] G Q := st_isi (b := false) (by constructor) (by with_unfolding_all rfl) q
theorem isi_bl_int {b : Bool} (q : Q (.bl true) G) : kIsi [.bl b, .ty "int"] G Q := st_isi (b := true) (by constructor) (by with_unfolding_all rfl) q
theorem isi_bl_bool {b : Bool} (q : Q (.bl true) G) : kIsi [.bl b, .ty "bool"] G Q := st_isi (b := true) (by constructor) (by with_unfolding_all rfl) q
theorem isi_bl_str {b : Bool} (q : Q (.bl false) G) : kIsi [.bl b, .ty "str"] G Q := st_isi (b := false) (by constructor) (by with_unfolding_all rfl) q
theorem isi_bl_list {b : Bool} (q : Q (.bl false) G) : kIsi [.bl b, .ty "list"] G Q := st_isi (b := false) (by constructor) (by with_unfolding_all rfl) q
theorem isi_int_tuple {i : Int} (q : Q (.bl false) G) : kIsi [.int i, .ty "tuple"] G Q := st_isi (b := false) (by constructor) (by with_unfolding_all rfl) q
theorem isi_int_int {i : Int} (q : Q (.bl true) G) : kIsi [.int i, .ty "int"] G Q := st_isi (b := true) (by constructor) (by with_unfolding_all rfl) q
theorem isi_int_bool {i : Int} (q : Q (.bl false) G) : kIsi [.int i, .ty "bool"] G Q := st_isi (b := false) (by constructor) (by with_unfolding_all rfl) q
theorem isi_int_str {i : Int} (q : Q (.bl false) G) : kIsi [.int i, .ty "str"] G Q := st_isi (b := false) (by constructor) (by with_unfolding_all rfl) q
theorem isi_int_list {i : Int} (q : Q (.bl false) G) : kIsi [.int i, .ty "list"] G Q := st_isi (b := false) (by constructor) (by with_unfolding_all rfl) q
theorem isi_str_tuple {x : Str} (q : Q (.bl false) G) : kIsi [.str x, .ty "tuple"] G Q := st_isi (b := false) (by constructor) (by with_unfolding_all rfl) q
theorem isi_str_int {x : Str} (q : Q (.bl false) G) : kIsi [.str x, .ty "int"] G Q := st_isi (b := false) (by constructor) (by with_unfolding_all rfl) q
theorem isi_str_bool {x : Str} (q : Q (.bl false) G) : kIsi [.str x, .ty "bool"] G Q := st_isi (b := false) (by constructor) (by with_unfolding_all rfl) q
theorem isi_str_str {x : Str} (q : Q (.bl true) G) : kIsi [.str x, .ty "str"] G Q := st_isi (b := true) (by constructor) (by with_unfolding_all rfl) q
theorem isi_str_list {x : Str} (q : Q (.bl false) G) : kIsi [.str x, .ty "list"] G Q := st_isi (b := false) (by constructor) (by with_unfolding_all rfl) q
theorem isi_lst_tuple {xs : List D} (q : Q (.bl false) G) : kIsi [.lst xs, .ty "tuple"] G Q := st_isi (b := false) (by constructor) (by with_unfolding_all rfl) q
theorem isi_lst_int {xs : List D} (q : Q (.bl false) G) : kIsi [.lst xs, .ty "int"] G Q := st_isi (b := false) (by constructor) (by with_unfolding_all rfl) q
theorem isi_lst_bool {xs : List D} (q : Q (.bl false) G) : kIsi [.lst xs, .ty "bool"] G Q := st_isi (b := false) (by constructor) (by with_unfolding_all rfl) q
theorem isi_lst_str {xs : List D} (q : Q (.bl false) G) : kIsi [.lst xs, .ty "str"] G Q := st_isi (b := false) (by constructor) (by with_unfolding_all rfl) q
theorem isi_lst_list {xs : List D} (q : Q (.bl true) G) : kIsi [.lst xs, .ty "list"] G Q := st_isi (b := true) (by constructor) (by with_unfolding_all rfl) q
theorem isi_tup_tuple {xs : List D} (q : Q (.bl true) G) : kIsi [.tup xs, .ty "tuple"] G Q := st_isi (b := true) (by constructor) (by with_unfolding_all rfl) q
theorem isi_tup_int {xs : List D} (q : Q (.bl false) G) : kIsi [.tup xs, .ty "int"] G Q := st_isi (b := false) (by constructor) (by with_unfolding_all rfl) q
theorem isi_tup_bool {xs : List D} (q : Q (.bl false) G) : kIsi [.tup xs, .ty "bool"] G Q := st_isi (b := false) (by constructor) (by with_unfolding_all rfl) q
theorem isi_tup_str {xs : List D} (q : Q (.bl false) G) : kIsi [.tup xs, .ty "str"] G Q := st_isi (b := false) (by constructor) (by with_unfolding_all rfl) q
theorem isi_tup_list {xs : List D} (q : Q (.bl false) G) : kIsi [.tup xs, .ty "list"] G Q := st_isi (b := false) (by constructor) (by with_unfolding_all rfl) q
end

/-! short ways through the steps, in groups (made by macgen.py out of mac and mac2) -/
local macro_rules | `(tactic| walk_at "get3") => `(tactic| first | exact GetAt.z | (refine' GetAt.s ?k3; (case k3 => walk_at "get3")))
local macro_rules | `(tactic| walk_at "put3") => `(tactic| first | exact SetAt.z | (refine' SetAt.s ?k3; (case k3 => walk_at "put3")))
local macro_rules | `(tactic| walk_at "ne3") => `(tactic| first | assumption | (refine Ne.symm ?_; assumption) | exact ne_sn (by assumption) (by assumption) | exact Ne.symm (ne_sn (by assumption) (by assumption)))
local macro_rules | `(tactic| walk_at "hp3") => `(tactic| first | assumption | exact gput_same | exact gdel_same | (refine' (gput_ne ?k4).trans ?k5; (case k4 => walk_at "ne3"); (case k5 => walk_at "hp3")) | (refine' (gdel_ne ?k4).trans ?k5; (case k4 => walk_at "ne3"); (case k5 => walk_at "hp3")))
local macro_rules | `(tactic| walk_at "sq3") => `(tactic| first | with_reducible exact Sq.tup _ | with_reducible exact Sq.lst _ | with_reducible exact Sq.wls _ | with_reducible exact LsW.lst _ | with_reducible exact LsW.wls _ | with_reducible exact Ls.lst _ | ((with_reducible refine' Sq.ref ?k6); (case k6 => walk_at "hp3")) | ((with_reducible refine' LsW.ref ?k6); (case k6 => walk_at "hp3")) | ((with_reducible refine' Ls.ref ?k6); (case k6 => walk_at "hp3")))
local macro_rules | `(tactic| walk_at "sz3") => `(tactic| first | decide | omega | (simp only [List.length_append, List.length_cons, List.length_nil, List.length_map, sizeLine_eq]; omega) | (simp only [List.length_append, List.length_cons, List.length_nil, List.length_map, sizeLine_eq]; split <;> simp only [List.length_append, List.length_cons, List.length_nil, List.length_map] <;> omega))
local macro_rules | `(tactic| walk_at "lk3") => `(tactic| first | with_reducible exact lk_here | with_reducible exact lk_nil | ((with_reducible refine' lk_next ?n1 ?n2); (case n1 => decide +kernel); (case n2 => walk_at "lk3")) | ((with_reducible refine' lk_not ?n1 ?n2); (case n1 => decide +kernel); (case n2 => walk_at "lk3")))
local macro_rules | `(tactic| walk_at "ev3") => `(tactic| (intro Qe Ee qe; (repeat walk_at "d13"); exact qe))
local macro_rules | `(tactic| walk_at "evh3") => `(tactic| (intro he Qe Ee qe; (repeat walk_at "d13"); exact qe))
local macro_rules | `(tactic| walk_at "ok3") => `(tactic| first | exact fun _ _ _ => trivial | exact fun _ _ _ => LsW.lst _ | exact fun _ _ _ => LsW.wls _ | exact fun _ _ hp => ok_put hp (by walk_at "sq3"))
local macro_rules | `(tactic| walk_at "put1") => `(tactic| (refine ⟨_, rfl, ?_⟩; dsimp only [wipeD, Tgt.put, putL, Option.bind, List.set]))
local macro_rules | `(tactic| walk_at "el3") => `(tactic| (intro ea eha ep eacc ehp; walk_at "put1"; walk_at "ev3"))
local macro_rules | `(tactic| walk_at "el23") => `(tactic| (intro ea eha ep eacc ehp; walk_at "put1"; (refine' ⟨?wa, ?wb⟩); (case wa => walk_at "ev3"); (case wb => walk_at "evh3")))
local macro_rules | `(tactic| walk_at "lc3") => `(tactic| first
  | ((with_reducible refine' lc_evYK D.str ?w1 ?w2 ?w3 ?w4); (case w1 => walk_at "ok3"); (case w2 => walk_at "sz3"); (case w3 => walk_at "el3"))
  | ((with_reducible refine' lc_evYK D.bl ?w1 ?w2 ?w3 ?w4); (case w1 => walk_at "ok3"); (case w2 => walk_at "sz3"); (case w3 => walk_at "el3"))
  | ((with_reducible refine' lc_evYK D.int ?w1 ?w2 ?w3 ?w4); (case w1 => walk_at "ok3"); (case w2 => walk_at "sz3"); (case w3 => walk_at "el3"))
  | ((with_reducible refine' lc_evY ?w1 ?w2 ?w3 ?w4); (case w1 => walk_at "ok3"); (case w2 => walk_at "sz3"); (case w3 => walk_at "el3"))
  | ((with_reducible refine' lc_evK D.str ?w1 ?w2 ?w3 ?w4); (case w1 => walk_at "ok3"); (case w2 => walk_at "sz3"); (case w3 => walk_at "el23"))
  | ((with_reducible refine' lc_evK D.bl ?w1 ?w2 ?w3 ?w4); (case w1 => walk_at "ok3"); (case w2 => walk_at "sz3"); (case w3 => walk_at "el23"))
  | ((with_reducible refine' lc_evK D.int ?w1 ?w2 ?w3 ?w4); (case w1 => walk_at "ok3"); (case w2 => walk_at "sz3"); (case w3 => walk_at "el23"))
  | ((with_reducible refine' lc_ev ?w1 ?w2 ?w3 ?w4); (case w1 => walk_at "ok3"); (case w2 => walk_at "sz3"); (case w3 => walk_at "el23")))
local macro_rules | `(tactic| walk_at "lcs3") => `(tactic| first
  | refine lc_of [_, _, _, _] D.str rfl ?_ | refine lc_of [_, _] D.str rfl ?_ | refine lc_of [_, _, _] D.str rfl ?_ | refine lc_of [_] D.str rfl ?_
  | refine lc_of [_, _, _, _] D.int rfl ?_ | refine lc_of [_, _] D.int rfl ?_ | refine lc_of [_, _, _] D.int rfl ?_ | refine lc_of [_] D.int rfl ?_ | with_reducible refine lc_rg ?_)
local macro_rules | `(tactic| walk_at "isi3") => `(tactic| ((with_reducible refine st_isim ?_); first
  | ((with_reducible refine' st_isiI (b := true) ?w1 ?w2); (case w1 => with_unfolding_all rfl))
  | ((with_reducible refine' st_isiB (b := true) ?w1 ?w2); (case w1 => with_unfolding_all rfl))
  | ((with_reducible refine' st_isiS (b := true) ?w1 ?w2); (case w1 => with_unfolding_all rfl))
  | ((with_reducible refine' st_isiN (b := true) ?w1 ?w2); (case w1 => with_unfolding_all rfl))
  | ((with_reducible refine' st_isiT (b := true) ?w1 ?w2); (case w1 => with_unfolding_all rfl))
  | ((with_reducible refine' st_isiL (b := true) ?w1 ?w2); (case w1 => with_unfolding_all rfl))
  | ((with_reducible refine' st_isiI (b := false) ?w1 ?w2); (case w1 => with_unfolding_all rfl))
  | ((with_reducible refine' st_isiB (b := false) ?w1 ?w2); (case w1 => with_unfolding_all rfl))
  | ((with_reducible refine' st_isiS (b := false) ?w1 ?w2); (case w1 => with_unfolding_all rfl))
  | ((with_reducible refine' st_isiN (b := false) ?w1 ?w2); (case w1 => with_unfolding_all rfl))
  | ((with_reducible refine' st_isiT (b := false) ?w1 ?w2); (case w1 => with_unfolding_all rfl))
  | ((with_reducible refine' st_isiL (b := false) ?w1 ?w2); (case w1 => with_unfolding_all rfl))))
local macro_rules | `(tactic| walk_at $s:str) => do
  let t := s.getString
  if t.startsWith "go " then
    let x := (t.drop 3).toString
    let a := Lean.mkIdent (Lean.Name.mkSimple ("t_" ++ x))
    let n := Lean.mkIdent (Lean.Name.mkSimple ("N_" ++ x))
    `(tactic| (simp only [startD, $n:ident, List.map_cons, List.map_nil, List.length_cons, List.length_nil, List.cons_append, List.nil_append, List.replicate, Nat.reduceAdd, Nat.reduceSub]; unfold $a; walk_at "d"))
  else if t.startsWith "gi " then
    let x := (t.drop 3).toString
    let a := Lean.mkIdent (Lean.Name.mkSimple ("t_" ++ x))
    let n := Lean.mkIdent (Lean.Name.mkSimple ("N_" ++ x))
    `(tactic| (simp only [startD, $n:ident, List.map_cons, List.map_nil, List.length_cons, List.length_nil, List.cons_append, List.nil_append, List.replicate, Nat.reduceAdd, Nat.reduceSub]; unfold $a; walk_at "di"))
  else Lean.Macro.throwUnsupported
local macro_rules | `(tactic| walk_at "sl") => `(tactic| (dsimp only [setL, List.set]; walk_at "d"))
local macro_rules | `(tactic| walk_at "fin") => `(tactic| refine fin_set rfl ?_)
local macro_rules | `(tactic| walk_at "di") => `(tactic| repeat ((fail_if_success (with_reducible refine st_ifS ?_)); walk_at "d13"))
local macro_rules | `(tactic| walk_at "nope") => `(tactic| refine st_iteF' (by simp [*]) ?_)
local macro_rules | `(tactic| walk_at "yep") => `(tactic| refine st_iteT' (by simp [*]) ?_)
local macro_rules | `(tactic| walk_at "gE") => `(tactic| first
  | ((with_reducible refine' st_var ?k1 ?k2); (case k1 => walk_at "get3"))
  | with_reducible refine st_c ?_
  | with_reducible refine st_op ?_
  | with_reducible refine st_call ?_
  | with_reducible refine st_cb ?_
  | with_reducible refine st_callK ?_
  | with_reducible refine st_notV ?_
  | with_reducible refine st_sl ?_
  | with_reducible refine st_lc ?_
  | with_reducible refine st_un ?_
  | with_reducible refine st_tup ⟨by walk_at "sz3", ?_⟩
  | with_reducible refine st_lst ?_
  | with_reducible refine st_lstM ?_
  | with_reducible refine st_tup ?_
  | with_reducible refine st_bm ?_
  | with_reducible refine st_bm0 ?_
  | with_reducible refine st_fstr ?_
  | with_reducible refine st_fmt ?_
  | with_reducible refine st_fld ?_
  | with_reducible refine st_mk ?_
  | with_reducible refine st_meth ?_
  | with_reducible refine st_prop ?_
  | with_reducible refine st_opO ?_
  | with_reducible refine st_dget ?_
  | with_reducible refine st_din ?_
  | with_reducible refine st_dget1 ?_
  | with_reducible refine st_dget2 ?_
  | with_reducible refine st_dnew ?_
  | with_reducible refine st_excF ?_
  | with_reducible refine st_rev ?_
  | with_reducible refine st_methVK ?_
  | ((with_reducible refine' st_andVE ?w1 ?w2 ?w3); (case w1 => walk_at "ev3"); (case w2 => walk_at "evh3"))
  | ((with_reducible refine' st_orVE ?w1 ?w2 ?w3); (case w1 => walk_at "ev3"); (case w2 => walk_at "evh3"))
  | ((with_reducible refine' st_ifE D.int ?w1 ?w2 ?w3 ?w4); (case w1 => walk_at "ev3"); (case w2 => walk_at "evh3"); (case w3 => walk_at "evh3"))
  | ((with_reducible refine' st_ifE D.str ?w1 ?w2 ?w3 ?w4); (case w1 => walk_at "ev3"); (case w2 => walk_at "evh3"); (case w3 => walk_at "evh3"))
  | ((with_reducible refine' st_ifE D.bl ?w1 ?w2 ?w3 ?w4); (case w1 => walk_at "ev3"); (case w2 => walk_at "evh3"); (case w3 => walk_at "evh3"))
  | ((with_reducible refine' st_ifE D.tup ?w1 ?w2 ?w3 ?w4); (case w1 => walk_at "ev3"); (case w2 => walk_at "evh3"); (case w3 => walk_at "evh3"))
  | ((with_reducible refine' st_chainE ?w1 ?w2 ?w3 ?w4 ?w5 ?w6); (case w1 => walk_at "ev3"); (case w2 => walk_at "ev3"); (case w3 => walk_at "ev3"); (case w4 => (intro Qe qe; walk_at "d13"; exact qe)); (case w5 => (intro he Qe qe; walk_at "d13"; exact qe)))
  | with_reducible refine st_callV ?_
  | with_reducible refine st_new ?_
  | with_reducible refine st_methV ?_
  | with_reducible refine st_mkK ?_)
local macro_rules | `(tactic| walk_at "hE") => `(tactic| first
  | with_reducible refine st_andV ?_
  | with_reducible refine st_orV ?_
  | with_reducible refine st_if ?_)
local macro_rules | `(tactic| walk_at "gS") => `(tactic| first
  | with_reducible refine st_seq ?_
  | with_reducible refine st_asg ?_
  | with_reducible refine st_next ?_
  | with_reducible refine st_break ?_
  | with_reducible refine st_cont ?_
  | with_reducible refine st_for ?_
  | with_reducible refine st_drop ?_
  | with_reducible refine st_ret ?_
  | with_reducible refine st_retN ?_
  | with_reducible refine st_retF ?_
  | with_reducible refine st_ifS ?_
  | with_reducible refine st_par ?_
  | with_reducible refine st_raise ?_
  | with_reducible refine st_setF ?_
  | ((with_reducible refine' st_frz ?k1 ?k2 ?k3 ?k4); (case k1 => walk_at "get3"); (case k2 => walk_at "hp3"); (case k3 => walk_at "put3"))
  | with_reducible refine st_dput ?_
  | with_reducible refine st_par3 ?_
  | with_reducible refine st_tryA ?_
  | with_reducible refine st_tryO ?_)
local macro_rules | `(tactic| walk_at "gi") => `(tactic| first
  | with_reducible refine st_inS1 ?_
  | with_reducible refine st_notInS1 ?_
  | with_reducible refine st_inS2 ?_
  | with_reducible refine st_notInS2 ?_
  | with_reducible refine st_inS3 ?_
  | with_reducible refine st_notInS3 ?_
  | with_reducible refine st_inS4 ?_
  | with_reducible refine st_notInS4 ?_
  | with_reducible refine st_inS5 ?_
  | with_reducible refine st_notInS5 ?_
  | with_reducible refine st_inS6 ?_
  | with_reducible refine st_notInS6 ?_
  | ((with_reducible refine' st_inT ?w1 ?w2); (case w1 => walk_at "sq3"))
  | ((with_reducible refine' st_notInT ?w1 ?w2); (case w1 => walk_at "sq3")))
local macro_rules | `(tactic| walk_at "ge") => `(tactic| first
  | with_reducible refine st_eqI ?_
  | with_reducible refine st_neI ?_
  | with_reducible refine st_eqS ?_
  | with_reducible refine st_neS ?_
  | with_reducible refine st_ne00 ?_
  | with_reducible refine st_eq00 ?_
  | with_reducible refine st_eqB ?_
  | with_reducible refine st_neB ?_
  | with_reducible refine st_neLI ?_
  | with_reducible refine st_eqLI ?_)
local macro_rules | `(tactic| walk_at "gR") => `(tactic| first
  | with_reducible refine st_oI0 ?_
  | with_reducible refine st_addI ?_
  | ((with_reducible refine' st_mulI ?k1 ?k2); (case k1 => first | with_reducible assumption | decide))
  | ((with_reducible refine' st_oI ?k1 ?k2); (case k1 => first | with_reducible assumption | omega | decide | (refine ⟨?_, ?_, ?_⟩ <;> first | decide | omega)))
  | ((with_reducible refine' st_ix ?k1 ?k2 ?k3); (case k1 => walk_at "sq3"); (case k2 => first | assumption | rfl))
  | ((with_reducible refine' st_addLm ?w1 ?w2); (case w1 => walk_at "sz3"))
  | ((with_reducible refine' st_addTm ?w1 ?w2); (case w1 => walk_at "sz3"))
  | with_reducible refine st_mulB ?_)
local macro_rules | `(tactic| walk_at "hR") => `(tactic| first
  | ((with_reducible refine' st_addL ?k1 ?k2 ?k3 ?k4); (case k1 => walk_at "sq3"); (case k2 => walk_at "sq3"); (case k3 => walk_at "sz3"))
  | ((with_reducible refine' st_addT ?k1 ?k2); (case k1 => walk_at "sz3")))
local macro_rules | `(tactic| walk_at "gK") => `(tactic| first
  | with_reducible refine st_abs ?_
  | with_reducible refine st_max2 ?_
  | with_reducible refine st_min2 ?_
  | with_reducible refine st_toInt ?_
  | with_reducible refine st_toIntB ?_
  | with_reducible refine st_bool ?_
  | ((with_reducible refine' st_tuple ?k1 ?k2); (case k1 => walk_at "sq3"))
  | ((with_reducible refine' st_list ?k1 ?k2); (case k1 => walk_at "sq3"))
  | with_reducible refine st_lenLm ?_
  | with_reducible refine st_lenTm ?_
  | with_reducible refine st_lenWm ?_
  | walk_at "isi3"
  | with_reducible refine st_reprB ?_
  | ((with_reducible refine' st_reprI ?w1 ?w2); (case w1 => omega)))
local macro_rules | `(tactic| walk_at "hK") => `(tactic| first
  | ((with_reducible refine' st_len ?k1 ?k2); (case k1 => walk_at "sq3")))
local macro_rules | `(tactic| walk_at "gX") => `(tactic| first
  | with_reducible refine st_bl ?_
  | with_reducible refine st_blq ?_
  | with_reducible refine st_tru_blq ?_
  | with_reducible refine st_int ?_
  | ((with_reducible refine' st_setat ?k1 ?k2 ?k3); (case k1 => walk_at "hp3"); (case k2 => first | assumption | rfl))
  | with_reducible refine st_tupq ?_
  | with_reducible refine st_lsq ?_
  | with_reducible refine st_wlsq ?_
  | ((with_reducible refine' st_rng1q ?k1 ?k2 ?k3); (case k1 => walk_at "sz3"); (case k2 => walk_at "sz3"))
  | ((with_reducible refine' st_rng2q ?k1 ?k2); (case k1 => (refine ⟨?_, ?_, ?_, ?_⟩ <;> walk_at "sz3")))
  | ((with_reducible refine' st_par2 ?k1 ?k2 ?k3); (case k1 => walk_at "put3"); (case k2 => walk_at "put3"))
  | ((with_reducible refine' st_fldO ?fa1 ?fa2 ?fa3); (case fa1 => simp); (case fa2 => walk_at "lk3"))
  | ((with_reducible refine' st_fldR ?fb1 ?fb2 ?fb3 ?fb4); (case fb1 => walk_at "hp3"); (case fb2 => simp); (case fb3 => walk_at "lk3"))
  | ((with_reducible refine' st_setFq ?fc1 ?fc2 ?fc3 ?fc4); (case fc1 => walk_at "hp3"); (case fc2 => simp); (case fc3 => first | decide | simp); (try simp +decide only [stF, if_false, if_true]))
  | ((with_reducible refine' st_methOP ?fd1 ?fd2); (case fd1 => walk_at "lk3"))
  | ((with_reducible refine' st_dinq ?k1 ?k2 ?k3); (case k1 => walk_at "hp3"); (case k2 => rfl))
  | ((with_reducible refine' st_par3q ?k1 ?k2 ?k3 ?k4); (case k1 => walk_at "put3"); (case k2 => walk_at "put3"); (case k3 => walk_at "put3"))
  | with_reducible refine st_enT ?_
  | ((with_reducible refine' st_enL ?k1 ?k2); (case k1 => walk_at "sq3"))
  | with_reducible refine st_strq ?_)
local macro_rules | `(tactic| walk_at "gI") => `(tactic| first
  | with_reducible refine st_neSame ?_
  | with_reducible refine st_eqSame ?_
  | ((with_reducible refine' st_eqDiff ?k1 ?k2); (case k1 => decide +kernel))
  | ((with_reducible refine' st_neDiff ?k1 ?k2); (case k1 => decide +kernel))
  | with_reducible refine st_iteT ?_
  | with_reducible refine st_iteF ?_
  | with_reducible refine st_iteNT ?_
  | with_reducible refine st_iteNF ?_)
local macro_rules | `(tactic| walk_at "gF") => `(tactic| first
  | with_reducible refine st_iSq ?_
  | with_reducible refine st_cons ?_
  | with_reducible refine st_nil ?_
  | with_reducible refine st_test ?_
  | with_reducible refine st_not ?_
  | with_reducible refine st_tru ?_
  | with_reducible refine st_nopart ?_
  | with_reducible refine st_part ?_
  | with_reducible refine st_iTup ?_
  | with_reducible refine st_iLst ?_
  | with_reducible refine st_rng1 ?_
  | with_reducible refine st_rng2 ?_
  | with_reducible refine st_js ?_
  | with_reducible refine st_jsn ?_
  | with_reducible refine st_truO ?_
  | with_reducible refine st_iEn ?_
  | with_reducible refine st_prs ?_
  | with_reducible refine st_prn ?_
  | ((with_reducible refine' st_andE ?w1 ?w2 ?w3); (case w1 => walk_at "ev3"); (case w2 => walk_at "evh3"))
  | ((with_reducible refine' st_orE ?w1 ?w2 ?w3); (case w1 => walk_at "ev3"); (case w2 => walk_at "evh3")))
local macro_rules | `(tactic| walk_at "hF") => `(tactic| first
  | with_reducible refine st_and ?_
  | with_reducible refine st_or ?_)
local macro_rules | `(tactic| walk_at "gA") => `(tactic| first
  | ((with_reducible refine' st_sz ?k1 ?k2); (case k1 => walk_at "sz3"))
  | with_reducible refine st_raise1 ?_
  | with_reducible refine st_raise2 ?_
  | ((with_reducible refine' st_tyL ?k1 ?k2); (case k1 => walk_at "hp3"))
  | ((with_reducible refine' st_isDD ?k1 ?k2); (case k1 => walk_at "hp3"))
  | with_reducible refine st_tyS ?_
  | with_reducible refine st_insQ ?_)
local macro_rules | `(tactic| walk_at "gO") => `(tactic| first
  | with_reducible refine st_sqT ?_
  | ((with_reducible refine' st_sqL ?k1 ?k2); (case k1 => walk_at "sq3"))
  | with_reducible refine st_sqS ?_
  | ((with_reducible refine' st_name ?k1 ?k2); (case k1 => walk_at "put3"))
  | with_reducible refine st_gtup rfl ?_
  | with_reducible refine st_glst rfl ?_
  | with_reducible refine st_gnil ?_
  | with_reducible refine st_gcons ?_
  | with_reducible refine st_gsub ?_
  | with_reducible refine st_uI ?_
  | ((with_reducible refine' st_append ?k1 ?k2 ?k3); (case k1 => walk_at "hp3"); (case k2 => walk_at "sz3"))
  | ((with_reducible refine' st_slL ?k1 ?k2); (case k1 => walk_at "sq3"))
  | with_reducible refine st_slT ?_
  | with_reducible refine st_revT ?_
  | ((with_reducible refine' st_revL ?k1 ?k2); (case k1 => walk_at "sq3"))
  | with_reducible refine st_bits ?_
  | ((with_reducible refine lc_mark ?_); (first | walk_at "lc3" | (walk_at "lcs3"; walk_at "lc3")); (try simp only [List.map_id'])))
local macro_rules | `(tactic| walk_at "x13") => `(tactic| fail)
local macro_rules | `(tactic| walk_at "d13") => `(tactic| first
  | ((with_reducible refine mk_E ?_); walk_at "gE")
  | ((with_reducible refine mk_S ?_); walk_at "gS")
  | ((with_reducible refine mk_i ?_); walk_at "gi")
  | ((with_reducible refine mk_e ?_); walk_at "ge")
  | ((with_reducible refine mk_R ?_); walk_at "gR")
  | ((with_reducible refine mk_K ?_); walk_at "gK")
  | ((with_reducible refine mk_X ?_); walk_at "gX")
  | ((with_reducible refine mk_I ?_); walk_at "gI")
  | ((with_reducible refine mk_F ?_); walk_at "gF")
  | ((with_reducible refine mk_A ?_); walk_at "gA")
  | walk_at "gO"
  | walk_at "x13"
  | ((with_reducible refine mk_E ?_); walk_at "hE")
  | ((with_reducible refine mk_R ?_); walk_at "hR")
  | ((with_reducible refine mk_K ?_); walk_at "hK")
  | ((with_reducible refine mk_F ?_); walk_at "hF"))
local macro_rules | `(tactic| walk_at "d") => `(tactic| repeat walk_at "d13")

/-! more short ways -/
local macro_rules | `(tactic| walk_at "de") => `(tactic| repeat ((fail_if_success (with_reducible refine st_if ?_)); walk_at "d13"))
local macro_rules | `(tactic| walk_at "sle") => `(tactic| (dsimp only [setL, List.set]; walk_at "de"))
local macro_rules | `(tactic| walk_at "x13") => `(tactic| first | with_reducible refine st_callQ ?_ | with_reducible refine st_callVQ ?_ | with_reducible refine st_tryX ?_ | with_reducible refine st_tryM ?_ | with_reducible refine st_smeth ?_ | with_reducible refine st_opOq ?_ | with_reducible refine st_lsR1 ?_ | with_reducible refine st_lsR2 ?_ | with_reducible refine st_iZp ?_ | with_reducible refine st_zpT ?_ | with_reducible refine st_negO ?_ | ((with_reducible refine' st_augO ?k1 ?k2); (case k1 => walk_at "get3")) | ((with_reducible refine' st_listM ?k1 ?k2); (case k1 => walk_at "sq3")) | with_reducible refine st_powB (by decide) (by decide +kernel) ?_)

/-! short ways: steps of slices and ranges -/
local macro_rules | `(tactic| walk_at "x13") => `(tactic| first | with_reducible refine st_sl3 ?_ | ((with_reducible refine' st_sl3q ?k1 ?k2 ?k3 ?k4); (case k1 => walk_at "sq3"); (case k2 => simp; omega)) | with_reducible refine st_rng3 ?_ | ((with_reducible refine' st_rng3q ?k1 ?k2); (case k1 => (refine ⟨?_, ?_, ?_, ?_, ?_, ?_⟩ <;> omega))) | with_reducible refine st_lsR3 ?_ | with_reducible refine st_sortS2 ?_)

/-! short ways: split, int(text) -/
local macro_rules | `(tactic| walk_at "x13") => `(tactic| first | with_reducible refine st_split ?_ | with_reducible refine st_exS ?_ | ((with_reducible refine' st_lenT ?k1 ?k2); (case k1 => assumption)) | ((with_reducible refine' st_slS ?k1 ?k2); (case k1 => assumption)))

/-! short ways for any values -/
local macro_rules | `(tactic| walk_at "x13") => `(tactic| first | with_reducible refine st_isNq ?_ | with_reducible refine isN_int0 ?_ | with_reducible refine isN_int1 ?_ | with_reducible refine isN_non0 ?_ | with_reducible refine isN_non1 ?_ | with_reducible refine st_allB ?_)
local macro_rules | `(tactic| walk_at "isi3") => `(tactic| first | with_reducible refine isi_non_tuple ?_ | with_reducible refine isi_non_int ?_ | with_reducible refine isi_non_bool ?_ | with_reducible refine isi_non_str ?_ | with_reducible refine isi_non_list ?_ | with_reducible refine isi_bl_tuple ?_ | with_reducible refine isi_bl_int ?_ | with_reducible refine isi_bl_bool ?_ | with_reducible refine isi_bl_str ?_ | with_reducible refine isi_bl_list ?_ | with_reducible refine isi_int_tuple ?_ | with_reducible refine isi_int_int ?_ | with_reducible refine isi_int_bool ?_ | with_reducible refine isi_int_str ?_ | with_reducible refine isi_int_list ?_ | with_reducible refine isi_str_tuple ?_ | with_reducible refine isi_str_int ?_ | with_reducible refine isi_str_bool ?_ | with_reducible refine isi_str_str ?_ | with_reducible refine isi_str_list ?_ | with_reducible refine isi_lst_tuple ?_ | with_reducible refine isi_lst_int ?_ | with_reducible refine isi_lst_bool ?_ | with_reducible refine isi_lst_str ?_ | with_reducible refine isi_lst_list ?_ | with_reducible refine isi_tup_tuple ?_ | with_reducible refine isi_tup_int ?_ | with_reducible refine isi_tup_bool ?_ | with_reducible refine isi_tup_str ?_ | with_reducible refine isi_tup_list ?_)
local macro_rules | `(tactic| walk_at "x13") => `(tactic| ((with_reducible refine mk_I ?_); first | ((refine' st_iteF' ?w1 ?w2); (case w1 => (simp; done))) | ((refine' st_iteT' ?w1 ?w2); (case w1 => (simp; done)))))
local macro_rules | `(tactic| walk_at "yy") => `(tactic| (refine st_iteT' (by simp [*]) ?_; walk_at "d"))

abbrev dN (n : Nat) : D := .int (n : Int)
/-! ### a line of words -/
abbrev lnI (k : Nat) (ws : List Str) (i : Nat) : HOD := .ins "Line" ["number", "parts", "at"] [dN k, .lst (ws.map D.str), dN i]
def seesW (ws : List Str) (i : Nat) : Str := if i = ws.length then " " else ws.getD i ""
theorem str_eqD (a b : Str) : eqD (.str a) (.str b) = decide (a = b) := by
  simp [eqD, D.pyd, PyData.eqv]
  rfl
theorem gd_str1 {a : Str} (h : PyData.strOk a = true) : gd 1 (.str a) := by simpa [gd] using h
theorem pyds_ids (xs : List D) : pyds xs = xs.map D.pyd := by have := pyds_map (c := id) xs; simpa using this
theorem gdl_pyL {n : Nat} {xs : List D} {G : HH} (h : gds n xs) (hn : n < 64) : Py G (.lst xs) (.list (xs.map D.pyd)) ∧ SeqAt.shaped (.list (xs.map D.pyd)) = true := by
  have h1 : gd (n + 1) (.lst xs) := gd_lst.mpr h
  have h2 := gd_py _ _ h1
  have e : (D.lst xs).pyd = .list (xs.map D.pyd) := by rw [← pyds_ids]; simp [D.pyd]
  rw [← e]
  exact ⟨Py.of h2.1, gd_shaped h1 (by omega)⟩
theorem st_indexS {z : Str} {zs : List Str} {G : HH} {Q : QD} (ok : ∀ y ∈ zs, PyData.strOk y = true) (h : z ∈ zs) (q : Q (dN (zs.idxOf z)) G) : mIndex (.lst (zs.map D.str)) [.str z] G Q := by
  have hlt : zs.idxOf z < zs.length := List.idxOf_lt_length_iff.mpr h
  have hgs : gds 1 (zs.map D.str) := gds_map fun r hr => gd_str1 (ok r hr)
  refine ⟨.str z, (D.str z).pyd, zs.map D.str, (zs.map D.str).map D.pyd, zs.idxOf z, (D.str z).pyd, rfl, .lst _, (gdl_pyL hgs (by decide)).1, Py.of (gd_py 1 _ (gd_str1 (ok z h))).1, (gdl_pyL (G := G) hgs (by decide)).2, gd_shaped (gd_str1 (ok z h)) (by omega), ?_, ?_, ?_, q⟩
  · rw [List.getElem?_map, List.getElem?_map, List.getElem?_eq_getElem hlt, List.getElem_idxOf hlt]; rfl
  · exact (str_eqD z z).trans (decide_eq_true rfl)
  · intro m z' hm he
    rw [List.getElem?_map, List.getElem?_map] at he
    obtain ⟨y, hy, rfl⟩ := Option.map_eq_some_iff.mp he
    obtain ⟨y2, hy2, rfl⟩ := Option.map_eq_some_iff.mp hy
    refine (str_eqD y2 z).trans (decide_eq_false fun e => ?_)
    subst e
    have h3 := List.not_of_lt_findIdx (p := fun x => x == y2) hm
    obtain ⟨hm2, hy3⟩ := List.getElem?_eq_some_iff.mp hy2
    rw [hy3] at h3
    simp at h3
theorem dec_nat (a b : Nat) : decide ((a : Int) = (b : Int)) = decide (a = b) := decide_eq_decide.mpr Int.ofNat_inj
theorem str_at {ws : List Str} {i : Nat} (h : i < ws.length) : atI (ws.map D.str) (i : Int) = some (.str (ws.getD i "")) := atI_nat (by
  rw [List.getElem?_map, List.getElem?_eq_getElem h, List.getD_eq_getElem?_getD, List.getElem?_eq_getElem h]; rfl)
def N_Line_is_over : List Str := ["self"]
def t_Line_is_over : TSD := (dRet (dOp (eAny false) (dFld ["Line"] "at" (dVar 0)) (dCB kLen (dCons (dFld ["Line"] "parts" (dVar 0)) dNil))))
def sp_Line_is_over : SpD := fun ds G Q _ => ∃ (p : Addr) (k : Nat) (ws : List Str) (i : Nat), ds = [.ref p] ∧ G p = some (lnI k ws i) ∧ Q (.bl (decide (i = ws.length))) G
theorem len_Line_is_over : LN sp_Line_is_over 1 := by rintro ds G Q E ⟨p, k, ws, i, rfl, _⟩; rfl
theorem vc_Line_is_over : VC sp_Line_is_over N_Line_is_over t_Line_is_over := by
  rintro ds G Q EX ⟨p, k, ws, i, rfl, hp, hq⟩
  walk_at "go Line_is_over"
  rw [dec_nat]
  exact hq
def N_Line_sees : List Str := ["self"]
def t_Line_sees : TSD := (dRet (dIf (dTru (dMeth "Line" "is_over" sp_Line_is_over (dVar 0) dNil)) (dC (.str " ")) (dOp xAny (dFld ["Line"] "parts" (dVar 0)) (dFld ["Line"] "at" (dVar 0)))))
def sp_Line_sees : SpD := fun ds G Q _ => ∃ (p : Addr) (k : Nat) (ws : List Str) (i : Nat), ds = [.ref p] ∧ G p = some (lnI k ws i) ∧ i ≤ ws.length ∧ Q (.str (seesW ws i)) G
theorem len_Line_sees : LN sp_Line_sees 1 := by rintro ds G Q E ⟨p, k, ws, i, rfl, _⟩; rfl
theorem vc_Line_sees : VC sp_Line_sees N_Line_sees t_Line_sees := by
  rintro ds G Q EX ⟨p, k, ws, i, rfl, hp, hi, hq⟩
  walk_at "go Line_sees"
  refine ⟨_, _, .ref hp, rfl, ?_⟩
  walk_at "d"
  refine ⟨p, k, ws, i, rfl, hp, ?_⟩
  walk_at "di"
  unfold seesW at hq
  by_cases e : i = ws.length
  · rw [if_pos e] at hq
    rw [decide_eq_true e]
    walk_at "d"
    exact hq
  · rw [if_neg e] at hq
    rw [decide_eq_false e]
    walk_at "d"
    refine st_ix (.lst _) (str_at (by omega)) ?_
    exact hq
def N_Line_fails : List Str := ["self"]
def t_Line_fails : TSD := (dRaise "BadText" ["line", "word"] (dCons (dFld ["Line"] "number" (dVar 0)) (dCons (dOp aAny (dFld ["Line"] "at" (dVar 0)) (dC (.int 1))) dNil)))
def sp_Line_fails : SpD := fun ds G Q E => ∃ (p : Addr) (k : Nat) (ws : List Str) (i : Nat), ds = [.ref p] ∧ G p = some (lnI k ws i) ∧ E ⟨.own "BadText", ["word", "line"], [dN (i + 1), dN k]⟩ G
theorem len_Line_fails : LN sp_Line_fails 1 := by rintro ds G Q E ⟨p, k, ws, i, rfl, _⟩; rfl
theorem vc_Line_fails : VC sp_Line_fails N_Line_fails t_Line_fails := by
  rintro ds G Q EX ⟨p, k, ws, i, rfl, hp, hq⟩
  walk_at "go Line_fails"
  exact ⟨rfl, hq⟩
def N_Line_takes : List Str := ["self", "words"]
abbrev t_Line_takes_1 : TSD := (dSeq (dSetF ["Line"] "at" (dVar 0) (dOp aAny (dFld ["Line"] "at" (dVar 0)) (dC (.int 1))))
  (dRet (dBM tyLs mIndex (dVar 1) (dCons (dOp xAny (dFld ["Line"] "parts" (dVar 0)) (dOp aSub (dFld ["Line"] "at" (dVar 0)) (dC (.int 1)))) dNil))))
def t_Line_takes : TSD := (dSeq (dIfS (dTest (dOp (iAny true) (dMeth "Line" "sees" sp_Line_sees (dVar 0) dNil) (dVar 1)))
  (dDrop (dMeth "Line" "fails" sp_Line_fails (dVar 0) dNil))
  dNext)
  t_Line_takes_1)
/-- a word that must be among some: its place, or that it fails -/
def LnR {α : Type} (p : Addr) (k : Nat) (ws : List Str) (r : Except Nat (α × Nat)) (c : α → D) (G : HH) (Q : QD) (E : ED) : Prop :=
  (∀ x j, r = .ok (x, j) → ∀ G', G' p = some (lnI k ws j) → Bk p G G' → Q (c x) G') ∧ ∀ w, r = .error w → ∀ G', Bk p G G' → E ⟨.own "BadText", ["word", "line"], [dN w, dN k]⟩ G'
def takesW (zs ws : List Str) (i : Nat) : Except Nat (Nat × Nat) := if seesW ws i ∈ zs then .ok (zs.idxOf (seesW ws i), i + 1) else .error (i + 1)
def sp_Line_takes : SpD := fun ds G Q E => ∃ (p : Addr) (k : Nat) (ws : List Str) (i : Nat) (zs : List Str), ds = [.ref p, .lst (zs.map D.str)] ∧ G p = some (lnI k ws i) ∧ i ≤ ws.length ∧ (∀ y ∈ zs, PyData.strOk y = true) ∧ (" " : Str) ∉ zs ∧ LnR p k ws (takesW zs ws i) dN G Q E
theorem len_Line_takes : LN sp_Line_takes 2 := by rintro ds G Q E ⟨p, k, ws, i, zs, rfl, _⟩; rfl
theorem vc_Line_takes : VC sp_Line_takes N_Line_takes t_Line_takes := by
  rintro ds G Q EX ⟨p, k, ws, i, zs, rfl, hp, hi, ok, hb, hq⟩
  walk_at "go Line_takes"
  refine ⟨_, _, .ref hp, rfl, ?_⟩
  walk_at "d"
  refine ⟨p, k, ws, i, rfl, hp, hi, ?_⟩
  walk_at "di"
  by_cases e : seesW ws i ∈ zs
  · have hlt : i < ws.length := by
      rcases Nat.lt_or_eq_of_le hi with h | h
      · exact h
      · unfold seesW at e
        rw [if_pos h] at e
        exact absurd e hb
    have es : seesW ws i = ws.getD i "" := if_neg (by omega)
    rw [decide_eq_true e]
    walk_at "d"
    refine ⟨⟨_, .lst _⟩, ?_⟩
    walk_at "d"
    rw [show (i : Int) + 1 - 1 = (i : Int) from by omega]
    refine st_ix (.lst _) (str_at hlt) ?_
    walk_at "d"
    rw [← es]
    refine st_indexS ok e ?_
    exact hq.1 _ _ (if_pos e) _ gput_same fun b hb _ => gput_ne hb
  · rw [decide_eq_false e]
    walk_at "d"
    refine ⟨_, _, .ref hp, rfl, ?_⟩
    walk_at "d"
    exact ⟨p, k, ws, i, rfl, hp, hq.2 _ (if_neg e) G .refl⟩
def N_Line_ends : List Str := ["self"]
def t_Line_ends : TSD := (dIfS (dNot (dTru (dMeth "Line" "is_over" sp_Line_is_over (dVar 0) dNil)))
  (dDrop (dMeth "Line" "fails" sp_Line_fails (dVar 0) dNil))
  dNext)
def sp_Line_ends : SpD := fun ds G Q E => ∃ (p : Addr) (k : Nat) (ws : List Str) (i : Nat), ds = [.ref p] ∧ G p = some (lnI k ws i) ∧ (if i = ws.length then Q .non G else E ⟨.own "BadText", ["word", "line"], [dN (i + 1), dN k]⟩ G)
theorem len_Line_ends : LN sp_Line_ends 1 := by rintro ds G Q E ⟨p, k, ws, i, rfl, _⟩; rfl
theorem vc_Line_ends : VC sp_Line_ends N_Line_ends t_Line_ends := by
  rintro ds G Q EX ⟨p, k, ws, i, rfl, hp, hq⟩
  walk_at "go Line_ends"
  refine ⟨_, _, .ref hp, rfl, ?_⟩
  walk_at "d"
  refine ⟨p, k, ws, i, rfl, hp, ?_⟩
  walk_at "di"
  by_cases e : i = ws.length
  · rw [if_pos e] at hq
    rw [decide_eq_true e]
    walk_at "d"
    exact hq
  · rw [if_neg e] at hq
    rw [decide_eq_false e]
    walk_at "d"
    refine ⟨_, _, .ref hp, rfl, ?_⟩
    walk_at "d"
    exact ⟨p, k, ws, i, rfl, hp, hq⟩
def N_Line_init : List Str := ["self", "number", "parts"]
def t_Line_init : TSD := (dSeq (dSetF ["Line"] "number" (dVar 0) (dVar 1))
  (dSeq (dSetF ["Line"] "parts" (dVar 0) (dVar 2))
  (dSetF ["Line"] "at" (dVar 0) (dC (.int 0)))))
def sp_Line_init : SpD := fun ds G Q _ => ∃ (p : Addr) (a b : D), ds = [.ref p, a, b] ∧ G p = some (.ins "Line" [] []) ∧ Q .non (gput G p (.ins "Line" ["number", "parts", "at"] [a, b, .int 0]))
theorem len_Line_init : LN sp_Line_init 3 := by rintro ds G Q E ⟨p, a, b, rfl, _⟩; rfl
theorem vc_Line_init : VC sp_Line_init N_Line_init t_Line_init := by
  rintro ds G Q EX ⟨p, a, b, rfl, hp, hq⟩
  walk_at "go Line_init"
  rw [gput_gput, gput_gput]
  exact hq
def N_line_at : List Str := ["lines", "index"]
def t_line_at : TSD := (dRet (dMake false "Line" sp_Line_init (dCons (dOp aAny (dVar 1) (dC (.int 1))) (dCons (dIf (dTest (dOp cLtI (dVar 1) (dCB kLen (dCons (dVar 0) dNil)))) (dSplit true (dOp xAny (dVar 0) (dVar 1)) (dC (.str " "))) (dLst dNil)) dNil))))
/-- the words of a line of a text -/
def wordsAt (ls : List Str) (i : Nat) : List Str := if i < ls.length then Txt.split (ls.getD i "") " " else []
def sp_line_at : SpD := fun ds G Q _ => ∃ (ls : List Str) (i : Nat), ds = [.lst (ls.map D.str), dN i] ∧ (∀ l ∈ ls, l.length + 2 ≤ sizeLine) ∧ ∀ p, G p = none → Q (.ref p) (gput G p (lnI (i + 1) (wordsAt ls i) 0))
theorem len_line_at : LN sp_line_at 2 := by rintro ds G Q E ⟨ls, i, rfl, _⟩; rfl
theorem getD_mem {ls : List Str} {i : Nat} (h : i < ls.length) : ls.getD i "" ∈ ls := by
  rw [List.getD_eq_getElem?_getD, List.getElem?_eq_getElem h]; exact List.getElem_mem h
theorem vc_line_at : VC sp_line_at N_line_at t_line_at := by
  rintro ds G Q EX ⟨ls, i, rfl, hl, hq⟩
  walk_at "go line_at"
  unfold wordsAt at hq
  by_cases h : i < ls.length
  · rw [if_pos h] at hq
    rw [decide_eq_true (by omega : (i : Int) < (ls.length : Int))]
    walk_at "d"
    refine st_ix (.lst _) (str_at h) ?_
    walk_at "d"
    refine st_splT (by decide) (hl _ (getD_mem h)) ?_
    walk_at "d"
    intro a ha
    refine ⟨a, _, _, rfl, gput_same, rfl, ?_⟩
    rw [gput_gput]
    exact hq a ha
  · rw [if_neg h] at hq
    rw [decide_eq_false (by omega : ¬ (i : Int) < (ls.length : Int))]
    walk_at "d"
    intro a ha
    refine ⟨a, _, _, rfl, gput_same, rfl, ?_⟩
    rw [gput_gput]
    exact hq a ha

/-! ### reading a program -/
theorem dcut_take (xs : List D) (k : Nat) : dcut xs none (some (k : Int)) = xs.take k := by
  unfold dcut
  rw [show HT.sIx xs.length 0 none = 0 from rfl, HT.sIx_nat, List.drop_zero, Nat.sub_zero, ← List.take_eq_take_min]
theorem dcut_drop (xs : List D) (k : Nat) : dcut xs (some (k : Int)) none = xs.drop k := by
  unfold dcut
  rw [HT.sIx_nat, show HT.sIx xs.length xs.length none = xs.length from rfl]
  rcases Nat.le_total k xs.length with h | h
  · rw [Nat.min_eq_left h]
    apply List.take_of_length_le
    rw [List.length_drop]; exact Nat.le_refl _
  · rw [Nat.min_eq_right h, List.drop_eq_nil_of_le (Nat.le_refl _), List.drop_eq_nil_of_le h, List.take_nil]
def nums99 : List Str := (List.range 199).map fun (k : Nat) => Str.ofString (toString ((k : Int) - 99))
def digs : List Nat := [48, 49, 50, 51, 52, 53, 54, 55, 56, 57]
theorem st_inSign {c : Nat} {z : Str} {G : HH} {Q : QD} (q : Q (.bl (decide (c ∈ z.cps.toList))) G) : iAny false (.str ⟨#[c]⟩) (.str z) G Q := .inr (.inl ⟨_, _, rfl, rfl, by rw [if_neg Bool.false_ne_true, PySem.StrLaws.found_one]; exact q⟩)
def plainOf (w : Str) : Str := if decide (cutS w none (some 1) = ("-" : Str)) = true then cutS w (some 1) none else w
theorem nums_all : ∀ w ∈ nums99, (1 ≤ (plainOf w).length ∧ (plainOf w).length ≤ 2) ∧ (∀ c ∈ (plainOf w).cps.toList, c ∈ digs) ∧ (w = "0" ∨ (plainOf w).cps.toList.head? ≠ some 48) := by decide +kernel
theorem nums_one : ∀ c ∈ digs, (⟨#[c]⟩ : Str) ∈ nums99 := by decide +kernel
theorem nums_two : ∀ c ∈ digs, c ≠ 48 → ∀ d ∈ digs, (⟨#[c, d]⟩ : Str) ∈ nums99 ∧ (⟨#[45, c, d]⟩ : Str) ∈ nums99 := by decide +kernel
theorem nums_neg : ∀ c ∈ digs, c ≠ 48 → (⟨#[45, c]⟩ : Str) ∈ nums99 := by decide +kernel
theorem plain_eq (l : List Nat) : (plainOf ⟨l.toArray⟩).cps.toList = if l.take 1 = [45] then l.drop 1 else l := by
  have h1 : (cutS ⟨l.toArray⟩ none (some 1)) = ⟨(l.take 1).toArray⟩ := by
    cases l with
    | nil => rfl
    | cons c r => simp [cutS, HT.sIx, Str.length]
  have h2 : (cutS ⟨l.toArray⟩ (some 1) none) = ⟨(l.drop 1).toArray⟩ := by
    cases l with
    | nil => rfl
    | cons c r => simp [cutS, HT.sIx, Str.length]
  unfold plainOf
  rw [h1, h2]
  have e : (⟨(l.take 1).toArray⟩ : Str) = ("-" : Str) ↔ l.take 1 = [45] := by
    refine ⟨fun h => ?_, fun h => by rw [h]; rfl⟩
    exact congrArg (fun z : Str => z.cps.toList) h
  by_cases h : l.take 1 = [45]
  · rw [if_pos h, decide_eq_true (e.mpr h), if_pos rfl]
  · rw [if_neg h, decide_eq_false (fun k => h (e.mp k)), if_neg Bool.false_ne_true]
theorem coef_iff {w pl : Str} (h : (if decide (cutS w none (some 1) = ("-" : Str)) = true then cutS w (some 1) none else w) = pl) :
    w ∈ nums99 ↔ (1 ≤ pl.length ∧ pl.length ≤ 2) ∧ (∀ c ∈ pl.cps.toList, c ∈ digs) ∧ (w = "0" ∨ pl.cps.toList.head? ≠ some 48) := by
  subst h
  refine ⟨nums_all w, fun ⟨h1, h2, h3⟩ => ?_⟩
  obtain ⟨l, rfl⟩ : ∃ l : List Nat, w = ⟨l.toArray⟩ := ⟨w.cps.toList, by cases w; simp⟩
  have hp := plain_eq l
  unfold plainOf at hp
  have hlen : ∀ z : Str, z.length = z.cps.toList.length := fun z => Array.length_toList.symm
  rw [hlen] at h1
  rw [hp] at h1 h2 h3
  by_cases h : l.take 1 = [45]
  · rw [if_pos h] at h1 h2 h3
    obtain ⟨r, rfl⟩ : ∃ r, l = 45 :: r := by
      match l, h with
      | c :: r, h => exact ⟨r, by rw [(List.cons.inj h).1]⟩
    have hn : (⟨(45 :: r).toArray⟩ : Str) ≠ "0" := fun e => by
      have : (45 : Nat) :: r = [48] := congrArg (fun z : Str => z.cps.toList) e
      cases this
    have h3 := h3.resolve_left hn
    match r, h1, h2, h3 with
    | [c], _, h2, h3 => exact nums_neg c (h2 c (by simp)) (fun e => h3 (by rw [e]; rfl))
    | [c, d], _, h2, h3 => exact (nums_two c (h2 c (by simp)) (fun e => h3 (by rw [e]; rfl)) d (h2 d (by simp))).2
    | [], h1, _, _ => simp at h1
    | _ :: _ :: _ :: _, h1, _, _ => simp at h1
  · rw [if_neg h] at h1 h2 h3
    match l, h1, h2, h3 with
    | [c], _, h2, _ => exact nums_one c (h2 c (by simp))
    | [c, d], _, h2, h3 =>
      have hn : (⟨[c, d].toArray⟩ : Str) ≠ "0" := fun e => by
        have : [c, d] = [48] := congrArg (fun z : Str => z.cps.toList) e
        cases this
      have h3 := h3.resolve_left hn
      exact (nums_two c (h2 c (by simp)) (fun e => h3 (by rw [e]; rfl)) d (h2 d (by simp))).1
    | [], h1, _, _ => simp at h1
    | _ :: _ :: _ :: _, h1, _, _ => simp at h1
def N_is_coefficient : List Str := ["word", "plain", "sign"]
abbrev t_is_coefficient_1 : TSD := (dSeq (dIfS (dOr (dNot (dTest (dChain cLeI cLeI (dC (.int 1)) (dCB kLen (dCons (dVar 1) dNil)) (dC (.int 2))))) (dNot (dTru (dCB kAll (dCons (dLc true (iSqD (dVar 1)) (.nm 2) dYes (dOp (iAny false) (dVar 2) (dC (.str "0123456789"))) [2]) dNil)))))
  (dRet (dC (.bl false)))
  dNext)
  (dRet (dOrV (dOp (eAny false) (dVar 0) (dC (.str "0"))) (dOp (eAny true) (dOp xAny (dVar 1) (dC (.int 0))) (dC (.str "0"))))))
def t_is_coefficient : TSD := (dSeq (dAsg (dIf (dTest (dOp (eAny false) (dSl (dVar 0) dNoPart (dPart (dC (.int 1)))) (dC (.str "-")))) (dSl (dVar 0) (dPart (dC (.int 1))) dNoPart) (dVar 0)) (gdName 1))
  t_is_coefficient_1)
def sp_is_coefficient : SpD := fun ds G Q _ => ∃ (w : Str), ds = [.str w] ∧ w.length ≤ sizeLine ∧ Q (.bl (decide (w ∈ nums99))) G
theorem len_is_coefficient : LN sp_is_coefficient 1 := by rintro ds G Q E ⟨w, rfl, _⟩; rfl
theorem vc_is_coefficient : VC sp_is_coefficient N_is_coefficient t_is_coefficient := by
  rintro ds G Q EX ⟨w, rfl, hl, hq⟩
  walk_at "go is_coefficient"
  have hpl2 : (if decide (cutS w none (some 1) = ("-" : Str)) = true then cutS w (some 1) none else w).length ≤ sizeLine := by
    split
    · exact Nat.le_trans (cutS_length _ _ _) hl
    · exact hl
  generalize hpl : (if decide (cutS w none (some 1) = ("-" : Str)) = true then cutS w (some 1) none else w) = pl at *
  walk_at "di"
  have hci := coef_iff hpl
  by_cases hlen : 1 ≤ pl.length ∧ pl.length ≤ 2
  · rw [decide_eq_true (by omega : (1 : Int) ≤ (pl.length : Int)), decide_eq_true (by omega : (pl.length : Int) ≤ (2 : Int))]
    walk_at "di"
    refine lc_evY (xs := pl.cps.toList) (f := fun c => D.bl (decide (c ∈ digs))) (fun _ _ _ => trivial) (by rw [Array.length_toList]; exact hpl2) (fun c hc q2 acc hq2 => ⟨_, rfl, ?_⟩) ?_
    · dsimp only [wipeD, List.set]
      intro Qe Ee qe
      walk_at "d"
      refine st_inSign ?_
      exact qe
    walk_at "di"
    refine st_all (ns := pl.cps.toList.map fun c => decide (c ∈ digs)) (by rw [List.map_map]; exact .lst _) ?_
    walk_at "di"
    have eall : (pl.cps.toList.map fun c => decide (c ∈ digs)).all id = decide (∀ c ∈ pl.cps.toList, c ∈ digs) := by
      rw [Bool.eq_iff_iff, List.all_eq_true, decide_eq_true_iff]
      refine ⟨fun h c hc => ?_, fun h b hb => ?_⟩
      · have := h _ (List.mem_map.mpr ⟨c, hc, rfl⟩)
        exact of_decide_eq_true this
      · obtain ⟨c, hc, rfl⟩ := List.mem_map.mp hb
        exact decide_eq_true (h c hc)
    rw [eall]
    by_cases hdig : ∀ c ∈ pl.cps.toList, c ∈ digs
    · rw [decide_eq_true hdig]
      walk_at "di"
      obtain ⟨c, r, ecr⟩ : ∃ c r, pl.cps.toList = c :: r := by
        have h2 : pl.cps.toList.length = pl.length := Array.length_toList
        cases e : pl.cps.toList with
        | nil => rw [e] at h2; simp at h2; omega
        | cons c r => exact ⟨c, r, rfl⟩
      rw [ecr] at hci
      by_cases hw0 : w = "0"
      · rw [decide_eq_true hw0]
        walk_at "d"
        rw [decide_eq_true (hci.mpr ⟨hlen, by rw [← ecr]; exact hdig, .inl hw0⟩)] at hq
        exact hq
      · rw [decide_eq_false hw0]
        walk_at "d"
        refine .inr ⟨pl, 0, c, rfl, rfl, hpl2, atI_nat (j := 0) (by rw [ecr]; rfl), ?_⟩
        walk_at "d"
        by_cases hc0 : c = 48
        · subst hc0
          rw [decide_eq_false (fun h => by
            rcases (hci.mp h).2.2 with h | h
            · exact hw0 h
            · exact h rfl)] at hq
          exact hq
        · rw [decide_eq_true (hci.mpr ⟨hlen, by rw [← ecr]; exact hdig, .inr (fun h => hc0 (Option.some.inj h))⟩)] at hq
          rw [show decide ((⟨#[c]⟩ : Str) = ("0" : Str)) = false from decide_eq_false fun h => hc0 (by have := congrArg (fun z : Str => z.cps.toList) h; exact (List.cons.inj this).1)]
          exact hq
    · rw [decide_eq_false hdig]
      walk_at "d"
      rw [decide_eq_false (fun h => hdig (hci.mp h).2.1)] at hq
      exact hq
  · rw [show (decide ((1 : Int) ≤ (pl.length : Int)) && decide ((pl.length : Int) ≤ (2 : Int))) = false from by rw [Bool.eq_false_iff]; simp; omega]
    walk_at "d"
    rw [decide_eq_false (fun h => hlen (hci.mp h).1)] at hq
    exact hq
abbrev v_NAMES : D := .tup [.str "a", .str "b", .str "c", .str "d"]
def N_place_names : List Str := ["inputs", "rows", "index"]
def t_place_names : TSD := (dRet (dOp aAny (dCB kList (dCons (dSl (dC v_NAMES) dNoPart (dPart (dVar 0))) dNil)) (dLc true (iRngD1 (dCons (dVar 1) dNil)) (.nm 2) dYes (dFStr [(dC (.str "r")), (dFmt (dVar 2))]) [2])))
def rName (k : Nat) : Str := Str.ofString "r" ++ Str.ofString (toString (k : Int))
def namesOf (n m : Nat) : List Str := ([("a" : Str), "b", "c", "d"].take n) ++ (List.range m).map rName
theorem num_len {k : Nat} (h : k < 10000) : (Str.ofString (toString (k : Int))).length ≤ 4 := by
  have e : (Str.ofString (toString (k : Int))).length = (TL.numL k).length := (Array.length_toList (xs := (Str.ofString (toString (k : Int))).cps)).symm.trans (congrArg List.length (TL.tl_num k))
  rw [e]
  exact TL.numL_len (by decide) h
theorem rName_len {k : Nat} (h : k < 10000) : (rName k).length ≤ 5 := by
  unfold rName
  have h1 := num_len h
  have h2 : (Str.ofString "r").length = 1 := by decide
  rw [PySem.Str.length_append]
  omega
theorem log_small {k : Nat} (h : k < 1900) : (k : Int).natAbs.log2 < 1920 := by
  have := Nat.log2_le_self k
  rw [Int.natAbs_natCast]
  omega
def sp_place_names : SpD := fun ds G Q _ => ∃ (n m : Nat), ds = [dN n, dN m] ∧ n ≤ 4 ∧ m ≤ 1000 ∧ Q (.lst ((namesOf n m).map D.str)) G
theorem len_place_names : LN sp_place_names 2 := by rintro ds G Q E ⟨n, m, rfl, _⟩; rfl
theorem vc_place_names : VC sp_place_names N_place_names t_place_names := by
  rintro ds G Q EX ⟨n, m, rfl, hn, hm, hq⟩
  walk_at "go place_names"
  rw [Int.toNat_natCast]
  refine lc_rg (lc_evY (f := fun k : Nat => D.str (rName k)) (fun _ _ _ => trivial) (by rw [List.length_range, sizeLine_eq]; omega) (fun k hk q2 acc hq2 => ⟨_, rfl, ?_⟩) ?_)
  · dsimp only [wipeD, List.set]
    intro Qe Ee qe
    have hk2 := List.mem_range.mp hk
    walk_at "d"
    refine ⟨by decide, ?_⟩
    refine st_js (st_fmt ?_)
    walk_at "d"
    refine .inr ⟨k, rfl, log_small (by omega), _, rfl, ?_, st_jsn ?_⟩
    · have := rName_len (k := k) (by omega)
      exact Nat.le_trans (show _ ≤ 5 from this) (by decide)
    · exact qe
  have ed : dcut [D.str "a", D.str "b", D.str "c", D.str "d"] none (some (n : Int)) = ([("a" : Str), "b", "c", "d"].take n).map D.str := (dcut_take [D.str "a", D.str "b", D.str "c", D.str "d"] n).trans (by rw [List.map_take]; rfl)
  have er : (List.range m).map (fun k => D.str (rName k)) = ((List.range m).map rName).map D.str := by rw [List.map_map]; rfl
  rw [ed, er]
  refine st_addLm (by rw [List.length_take, List.length_map, List.length_range, sizeLine_eq]; simp; omega) ?_
  exact hq

/-! ### reading terms -/
theorem nums_int : ∀ w ∈ nums99, (PySem.intText? w).isSome = true ∧ w.length ≤ 3 := by decide +kernel
theorem sp_no : (" " : Str) ∉ nums99 := by decide +kernel
def valOf (w : Str) : Int := (PySem.intText? w).getD 0
theorem seesW_lt {ws : List Str} {i : Nat} {zs : List Str} (hi : i ≤ ws.length) (hb : (" " : Str) ∉ zs) (h : seesW ws i ∈ zs) : i < ws.length := by
  rcases Nat.lt_or_eq_of_le hi with h1 | h1
  · exact h1
  · unfold seesW at h
    rw [if_pos h1] at h
    exact absurd h hb
theorem seesW_len {ws : List Str} {i : Nat} (hw : ∀ w ∈ ws, w.length ≤ sizeLine) (hi : i ≤ ws.length) : (seesW ws i).length ≤ sizeLine := by
  unfold seesW
  split
  · decide
  · exact hw _ (getD_mem (by omega))
def rdCoef (ws : List Str) (i : Nat) : Except Nat (Int × Nat) := if seesW ws i ∈ nums99 then .ok (valOf (seesW ws i), i + 1) else .error (i + 1)
def N_read_coefficient : List Str := ["line", "word"]
abbrev t_read_coefficient_1 : TSD := (dSeq (dIfS (dNot (dTru (dCall sp_is_coefficient (dCons (dVar 1) dNil))))
  (dDrop (dMeth "Line" "fails" sp_Line_fails (dVar 0) dNil))
  dNext)
  (dSeq (dSetF ["Line"] "at" (dVar 0) (dOp aAny (dFld ["Line"] "at" (dVar 0)) (dC (.int 1))))
  (dRet (dCB kIntS (dCons (dVar 1) dNil)))))
def t_read_coefficient : TSD := (dSeq (dAsg (dMeth "Line" "sees" sp_Line_sees (dVar 0) dNil) (gdName 1))
  t_read_coefficient_1)
def sp_read_coefficient : SpD := fun ds G Q E => ∃ (p : Addr) (k : Nat) (ws : List Str) (i : Nat), ds = [.ref p] ∧ G p = some (lnI k ws i) ∧ i ≤ ws.length ∧ (∀ w ∈ ws, w.length ≤ sizeLine) ∧ LnR p k ws (rdCoef ws i) D.int G Q E
theorem len_read_coefficient : LN sp_read_coefficient 1 := by rintro ds G Q E ⟨p, k, ws, i, rfl, _⟩; rfl
theorem vc_read_coefficient : VC sp_read_coefficient N_read_coefficient t_read_coefficient := by
  rintro ds G Q EX ⟨p, k, ws, i, rfl, hp, hi, hw, hq⟩
  walk_at "go read_coefficient"
  refine ⟨_, _, .ref hp, rfl, ?_⟩
  walk_at "d"
  refine ⟨p, k, ws, i, rfl, hp, hi, ?_⟩
  walk_at "d"
  refine ⟨_, rfl, seesW_len hw hi, ?_⟩
  by_cases e : seesW ws i ∈ nums99
  · rw [decide_eq_true e]
    walk_at "d"
    obtain ⟨h1, h2⟩ := nums_int _ e
    obtain ⟨n, hn⟩ := Option.isSome_iff_exists.mp h1
    refine st_intS hn (by omega) ?_
    have hv : valOf (seesW ws i) = n := by unfold valOf; rw [hn]; rfl
    rw [← hv]
    exact hq.1 _ _ (if_pos e) _ gput_same fun b hb _ => gput_ne hb
  · rw [decide_eq_false e]
    walk_at "d"
    refine ⟨_, _, .ref hp, rfl, ?_⟩
    walk_at "d"
    exact ⟨p, k, ws, i, rfl, hp, hq.2 _ (if_neg e) G .refl⟩
theorem bk_putA {p : Addr} {G G' : HH} {o : HOD} (h : Bk p G G') : Bk p G (gput G' p o) := fun b hb hn => (gput_ne hb).trans (h b hb hn)
theorem bk_putN {p q : Addr} {G G' : HH} {o : HOD} (h : Bk p G G') (hq : G q = none) : Bk p G (gput G' q o) := fun b hb hn => (gput_ne (fun e => hn (by rw [e]; exact hq))).trans (h b hb hn)
theorem bk_delN {p q : Addr} {G G' : HH} (h : Bk p G G') (hq : G q = none) : Bk p G (gdel G' q) := fun b hb hn => (gdel_ne (fun e => hn (by rw [e]; exact hq))).trans (h b hb hn)
theorem bk_fresh {p q : Addr} {G G' : HH} (h : Bk p G G') (hp : G' p ≠ none) (hq : G' q = none) : p ≠ q ∧ G q = none := by
  have n : p ≠ q := fun e => hp (by rw [e]; exact hq)
  refine ⟨n, ?_⟩
  cases e : G q with
  | none => rfl
  | some o =>
    have := h q (Ne.symm n) (by rw [e]; nofun)
    rw [hq, e] at this
    cases this
theorem rdCoef_le {ws : List Str} {i j : Nat} {c : Int} (hi : i ≤ ws.length) (h : rdCoef ws i = .ok (c, j)) : j ≤ ws.length := by
  unfold rdCoef at h
  split at h
  · rename_i e
    have := seesW_lt hi sp_no e
    cases h
    omega
  · cases h
def N_read_term : List Str := ["line", "names", "coefficient", "places"]
abbrev t_read_term_1 : TSD := (dSeq (dIfS (dTest (dOp (eAny false) (dCB kLen (dCons (dVar 3) dNil)) (dC (.int 2))))
  (dDrop (dMeth "Line" "fails" sp_Line_fails (dVar 0) dNil))
  dNext)
  (dDrop (dBM tyL mAppend (dVar 3) (dCons (dMeth "Line" "takes" sp_Line_takes (dVar 0) (dCons (dVar 1) dNil)) dNil))))
abbrev t_read_term_2 : TSD := (dSeq (dWhile (dAnd (dNot (dTru (dMeth "Line" "is_over" sp_Line_is_over (dVar 0) dNil))) (dTest (dOp (eAny true) (dMeth "Line" "sees" sp_Line_sees (dVar 0) dNil) (dC (.str "+")))))
  t_read_term_1)
  (dFrz 3 (dRet (dTup (dCons (dVar 2) (dCons (dCB kTuple (dCons (dVar 3) dNil)) dNil))))))
def t_read_term : TSD := (dSeq (dPar 2 3 (dCons (dCall sp_read_coefficient (dCons (dVar 0) dNil)) (dCons (dLstM dNil) dNil)))
  t_read_term_2)
def rdPlaces (zs ws : List Str) : Nat → Nat → List Nat → Except Nat (List Nat × Nat)
  | 0, i, acc => .ok (acc, i)
  | f + 1, i, acc => if i = ws.length ∨ seesW ws i = "+" then .ok (acc, i) else if acc.length = 2 then .error (i + 1) else if seesW ws i ∈ zs then rdPlaces zs ws f (i + 1) (acc ++ [zs.idxOf (seesW ws i)]) else .error (i + 1)
def rdTerm (zs ws : List Str) (i : Nat) : Except Nat ((Int × List Nat) × Nat) := match rdCoef ws i with
  | .error w => .error w
  | .ok (c, j) => match rdPlaces zs ws (ws.length - j) j [] with
    | .error w => .error w
    | .ok (ps, j2) => .ok ((c, ps), j2)
abbrev tV (t : Int × List Nat) : D := .tup [.int t.1, .tup (t.2.map dN)]
structure NamesOk (zs : List Str) : Prop where
  ok : ∀ y ∈ zs, PyData.strOk y = true
  sp : (" " : Str) ∉ zs
def sp_read_term : SpD := fun ds G Q E => ∃ (p : Addr) (k : Nat) (ws : List Str) (i : Nat) (zs : List Str), ds = [.ref p, .lst (zs.map D.str)] ∧ G p = some (lnI k ws i) ∧ i ≤ ws.length ∧ (∀ w ∈ ws, w.length ≤ sizeLine) ∧ NamesOk zs ∧ LnR p k ws (rdTerm zs ws i) tV G Q E
theorem len_read_term : LN sp_read_term 2 := by rintro ds G Q E ⟨p, k, ws, i, zs, rfl, _⟩; rfl
theorem vc_read_term : VC sp_read_term N_read_term t_read_term := by
  rintro ds G Q EX ⟨p, k, ws, i, zs, rfl, hp, hi, hw, hz, hq⟩
  walk_at "go read_term"
  refine ⟨p, k, ws, i, rfl, hp, hi, hw, fun c j e1 G1 hp1 hB1 => ?_, fun w e1 => hq.2 w (by unfold rdTerm; rw [e1])⟩
  have hrt : rdTerm zs ws i = match rdPlaces zs ws (ws.length - j) j [] with | .error w => .error w | .ok (ps, j2) => .ok ((c, ps), j2) := by unfold rdTerm; rw [e1]
  rw [hrt] at hq
  walk_at "d"
  intro q hqn
  walk_at "d"
  have hj := rdCoef_le hi e1
  obtain ⟨hpq, hqG⟩ := bk_fresh hB1 (by rw [hp1]; nofun) hqn
  refine while_set [] (fun m vs G' => vs = [] ∧ ∃ (i' : Nat) (acc : List Nat), G' p = some (lnI k ws i') ∧ G' q = some (.lst (acc.map dN)) ∧ Bk p G G' ∧ i' ≤ ws.length ∧ m = ws.length - i' ∧ acc.length ≤ 2 ∧ rdPlaces zs ws m i' acc = rdPlaces zs ws (ws.length - j) j []) (ws.length - j) rfl ⟨rfl, j, [], (gput_ne hpq).trans hp1, gput_same, bk_putN hB1 hqG, hj, rfl, by simp, rfl⟩ ?_
  rintro m vs G2 nx' ⟨rfl, i', acc, hp2, hq2, hB2, hi', hm, ha, he⟩ hn
  rw [← he] at hq
  walk_at "sl"
  refine ⟨_, _, .ref hp2, rfl, ?_⟩
  walk_at "d"
  refine ⟨p, k, ws, i', rfl, hp2, ?_⟩
  have fin : rdPlaces zs ws m i' acc = .ok (acc, i') → ∀ G3, G3 p = some (lnI k ws i') → Bk p G G3 → Q (tV (c, acc)) (gdel G3 q) := by
    intro hr G3 hp3 hB3
    rw [hr] at hq
    exact hq.1 _ _ rfl _ ((gdel_ne hpq).trans hp3) (bk_delN hB3 hqG)
  by_cases hl : i' = ws.length
  · rw [decide_eq_true hl]
    walk_at "d"
    refine fin ?_ _ hp2 hB2
    obtain rfl : m = 0 := by omega
    rfl
  rw [decide_eq_false hl]
  walk_at "d"
  obtain ⟨m, rfl⟩ : ∃ k, m = k + 1 := ⟨m - 1, by omega⟩
  refine ⟨_, _, .ref hp2, rfl, ?_⟩
  walk_at "d"
  refine ⟨p, k, ws, i', rfl, hp2, hi', ?_⟩
  walk_at "d"
  by_cases hpl : seesW ws i' = "+"
  · rw [decide_eq_true hpl]
    walk_at "d"
    refine fin ?_ _ hp2 hB2
    unfold rdPlaces
    rw [if_pos (.inr hpl)]
  rw [decide_eq_false hpl]
  walk_at "d"
  have hst : rdPlaces zs ws (m + 1) i' acc = if acc.length = 2 then .error (i' + 1) else if seesW ws i' ∈ zs then rdPlaces zs ws m (i' + 1) (acc ++ [zs.idxOf (seesW ws i')]) else .error (i' + 1) := by
    conv => lhs; unfold rdPlaces
    rw [if_neg (by simp only [hl, hpl, or_self, not_false_eq_true])]
  rw [hst] at hq he
  rw [List.length_map]
  by_cases h2 : acc.length = 2
  · rw [if_pos h2] at hq
    rw [h2]
    walk_at "d"
    refine ⟨_, _, .ref hp2, rfl, ?_⟩
    walk_at "d"
    exact ⟨p, k, ws, i', rfl, hp2, hq.2 _ rfl _ hB2⟩
  · rw [if_neg h2] at hq he
    rw [decide_eq_false (by omega : ¬ (acc.length : Int) = 2)]
    walk_at "d"
    refine ⟨_, _, .ref hp2, rfl, ?_⟩
    walk_at "d"
    refine ⟨p, k, ws, i', zs, rfl, hp2, hi', hz.ok, hz.sp, fun x j' hr G3 hp3 hB3 => ?_, fun w hr G3 hB3 => ?_⟩
    · unfold takesW at hr
      split at hr
      · rename_i e
        rw [if_pos e] at he
        cases hr
        have hlt := seesW_lt hi' hz.sp e
        have hq3 := hB3.at (Ne.symm hpq) hq2
        walk_at "d"
        refine while_go hn rfl (Nat.lt_succ_self m) ⟨rfl, i' + 1, acc ++ [zs.idxOf (seesW ws i')], (gput_ne hpq).trans hp3, by rw [gput_same, List.map_append]; rfl, bk_putN (hB2.trans hB3) hqG, hlt, by omega, by rw [List.length_append]; simp; omega, he⟩
      · cases hr
    · unfold takesW at hr
      split at hr
      · cases hr
      · rename_i e
        rw [if_neg e] at hq
        cases hr
        exact hq.2 _ rfl _ (hB2.trans hB3)

/-! ### reading a row, the outs, the inputs -/
theorem rdPlaces_le {zs ws : List Str} (hb : (" " : Str) ∉ zs) : ∀ {f i : Nat} {acc r : List Nat} {j : Nat}, i ≤ ws.length → rdPlaces zs ws f i acc = .ok (r, j) → i ≤ j ∧ j ≤ ws.length
  | 0, i, acc, r, j, hi, h => by
    unfold rdPlaces at h
    cases h
    exact ⟨Nat.le_refl _, hi⟩
  | f + 1, i, acc, r, j, hi, h => by
    unfold rdPlaces at h
    split at h
    · cases h
      exact ⟨Nat.le_refl _, hi⟩
    · split at h
      · cases h
      · split at h
        · rename_i e
          have h1 := seesW_lt hi hb e
          have := rdPlaces_le hb (f := f) (by omega) h
          omega
        · cases h
theorem rdTerm_le {zs ws : List Str} (hb : (" " : Str) ∉ zs) {i j : Nat} {t : Int × List Nat} (hi : i ≤ ws.length) (h : rdTerm zs ws i = .ok (t, j)) : i < j ∧ j ≤ ws.length := by
  unfold rdTerm at h
  split at h
  · cases h
  · rename_i c j1 e
    have h1 := rdCoef_le hi e
    have h0 : j1 = i + 1 := by
      unfold rdCoef at e
      split at e
      · cases e; rfl
      · cases e
    split at h
    · cases h
    · rename_i ps j2 e2
      have := rdPlaces_le hb h1 e2
      cases h
      omega
def N_read_terms : List Str := ["line", "names", "terms"]
abbrev t_read_terms_1 : TSD := (dSeq (dDrop (dMeth "Line" "takes" sp_Line_takes (dVar 0) (dCons (dLst (dCons (dC (.str "none")) dNil)) dNil)))
  (dSeq (dDrop (dMeth "Line" "ends" sp_Line_ends (dVar 0) dNil))
  (dRet (dTup dNil))))
abbrev t_read_terms_2 : TSD := (dSeq (dDrop (dMeth "Line" "takes" sp_Line_takes (dVar 0) (dCons (dLst (dCons (dC (.str "+")) dNil)) dNil)))
  (dDrop (dBM tyL mAppend (dVar 2) (dCons (dCall sp_read_term (dCons (dVar 0) (dCons (dVar 1) dNil))) dNil))))
abbrev t_read_terms_3 : TSD := (dSeq (dIfS (dTest (dOp (eAny false) (dCB kLen (dCons (dVar 2) dNil)) (dC (.int 6))))
  (dDrop (dMeth "Line" "fails" sp_Line_fails (dVar 0) dNil))
  dNext)
  t_read_terms_2)
abbrev t_read_terms_4 : TSD := (dSeq (dAsg (dLstM (dCons (dCall sp_read_term (dCons (dVar 0) (dCons (dVar 1) dNil))) dNil)) (gdName 2))
  (dSeq (dWhile (dNot (dTru (dMeth "Line" "is_over" sp_Line_is_over (dVar 0) dNil)))
  t_read_terms_3)
  (dFrz 2 (dRet (dCB kTuple (dCons (dVar 2) dNil))))))
def t_read_terms : TSD := (dSeq (dIfS (dTest (dOp (eAny false) (dMeth "Line" "sees" sp_Line_sees (dVar 0) dNil) (dC (.str "none"))))
  t_read_terms_1
  dNext)
  t_read_terms_4)
abbrev TmI := Int × List Nat
def rdMore (zs ws : List Str) : Nat → Nat → List TmI → Except Nat (List TmI × Nat)
  | 0, i, acc => .ok (acc, i)
  | f + 1, i, acc => if i = ws.length then .ok (acc, i) else if acc.length = 6 then .error (i + 1) else if seesW ws i = "+" then match rdTerm zs ws (i + 1) with
    | .error w => .error w
    | .ok (t, j) => rdMore zs ws f j (acc ++ [t]) else .error (i + 1)
def rdTerms (zs ws : List Str) (i : Nat) : Except Nat (List TmI × Nat) := if seesW ws i = "none" then (if i + 1 = ws.length then .ok ([], i + 1) else .error (i + 2)) else match rdTerm zs ws i with
  | .error w => .error w
  | .ok (t, j) => rdMore zs ws (ws.length - j) j [t]
abbrev tsV (ts : List TmI) : D := .tup (ts.map tV)
def sp_read_terms : SpD := fun ds G Q E => ∃ (p : Addr) (k : Nat) (ws : List Str) (i : Nat) (zs : List Str), ds = [.ref p, .lst (zs.map D.str)] ∧ G p = some (lnI k ws i) ∧ i ≤ ws.length ∧ (∀ w ∈ ws, w.length ≤ sizeLine) ∧ NamesOk zs ∧ LnR p k ws (rdTerms zs ws i) tsV G Q E
theorem len_read_terms : LN sp_read_terms 2 := by rintro ds G Q E ⟨p, k, ws, i, zs, rfl, _⟩; rfl
theorem seesW_end {ws : List Str} {i : Nat} {z : Str} (hi : i ≤ ws.length) (hz : z ≠ " ") (h : seesW ws i = z) : i < ws.length := by
  rcases Nat.lt_or_eq_of_le hi with h1 | h1
  · exact h1
  · unfold seesW at h
    rw [if_pos h1] at h
    exact absurd h.symm hz
theorem vc_read_terms : VC sp_read_terms N_read_terms t_read_terms := by
  rintro ds G Q EX ⟨p, k, ws, i, zs, rfl, hp, hi, hw, hz, hq⟩
  walk_at "go read_terms"
  refine ⟨_, _, .ref hp, rfl, ?_⟩
  walk_at "d"
  refine ⟨p, k, ws, i, rfl, hp, hi, ?_⟩
  walk_at "d"
  unfold rdTerms at hq
  by_cases hn : seesW ws i = "none"
  · rw [if_pos hn] at hq
    rw [decide_eq_true hn]
    walk_at "d"
    refine ⟨_, _, .ref hp, rfl, ?_⟩
    walk_at "d"
    have hlt := seesW_end hi (by decide) hn
    have ht : takesW ["none"] ws i = .ok (0, i + 1) := by
      unfold takesW
      rw [hn, if_pos (by decide)]
      rfl
    refine ⟨p, k, ws, i, ["none"], rfl, hp, hi, by decide +kernel, by decide +kernel, fun x j hr G1 hp1 hB1 => ?_, fun w hr => by rw [ht] at hr; cases hr⟩
    rw [ht] at hr
    cases hr
    walk_at "d"
    refine ⟨_, _, .ref hp1, rfl, ?_⟩
    walk_at "d"
    refine ⟨p, k, ws, i + 1, rfl, hp1, ?_⟩
    by_cases he : i + 1 = ws.length
    · rw [if_pos he] at hq ⊢
      walk_at "d"
      exact hq.1 _ _ rfl _ hp1 hB1
    · rw [if_neg he] at hq ⊢
      exact hq.2 _ rfl _ hB1
  · rw [if_neg hn] at hq
    rw [decide_eq_false hn]
    walk_at "d"
    refine ⟨p, k, ws, i, zs, rfl, hp, hi, hw, hz, fun t j e1 G1 hp1 hB1 => ?_, fun w e1 => hq.2 w (by rw [e1])⟩
    rw [e1] at hq
    dsimp only at hq
    have hj := rdTerm_le hz.sp hi e1
    walk_at "d"
    intro q hqn
    walk_at "d"
    obtain ⟨hpq, hqG⟩ := bk_fresh hB1 (by rw [hp1]; nofun) hqn
    refine while_set [] (fun m vs G' => vs = [] ∧ ∃ (i' : Nat) (acc : List TmI), G' p = some (lnI k ws i') ∧ G' q = some (.lst (acc.map tV)) ∧ Bk p G G' ∧ i' ≤ ws.length ∧ ws.length - i' ≤ m ∧ acc.length ≤ 6 ∧ rdMore zs ws m i' acc = rdMore zs ws (ws.length - j) j [t]) (ws.length - j) rfl ⟨rfl, j, [t], (gput_ne hpq).trans hp1, gput_same, bk_putN hB1 hqG, hj.2, Nat.le_refl _, by simp, rfl⟩ ?_
    rintro m vs G2 nx' ⟨rfl, i', acc, hp2, hq2, hB2, hi', hm, ha, he⟩ hnx
    rw [← he] at hq
    walk_at "sl"
    refine ⟨_, _, .ref hp2, rfl, ?_⟩
    walk_at "d"
    refine ⟨p, k, ws, i', rfl, hp2, ?_⟩
    by_cases hl : i' = ws.length
    · rw [decide_eq_true hl]
      walk_at "d"
      have hr : rdMore zs ws m i' acc = .ok (acc, i') := by
        cases m with
        | zero => rfl
        | succ m => unfold rdMore; rw [if_pos hl]
      exact hq.1 _ _ hr _ ((gdel_ne hpq).trans hp2) (bk_delN hB2 hqG)
    rw [decide_eq_false hl]
    walk_at "d"
    obtain ⟨m, rfl⟩ : ∃ k, m = k + 1 := ⟨m - 1, by omega⟩
    have hst : rdMore zs ws (m + 1) i' acc = if acc.length = 6 then .error (i' + 1) else if seesW ws i' = "+" then match rdTerm zs ws (i' + 1) with
      | .error w => .error w
      | .ok (t, j) => rdMore zs ws m j (acc ++ [t]) else .error (i' + 1) := by
      conv => lhs; unfold rdMore
      rw [if_neg hl]
    rw [hst] at hq he
    rw [List.length_map]
    by_cases h2 : acc.length = 6
    · rw [if_pos h2] at hq
      rw [h2]
      walk_at "d"
      refine ⟨_, _, .ref hp2, rfl, ?_⟩
      walk_at "d"
      exact ⟨p, k, ws, i', rfl, hp2, hq.2 _ rfl _ hB2⟩
    rw [if_neg h2] at hq he
    rw [decide_eq_false (by omega : ¬ (acc.length : Int) = 6)]
    walk_at "d"
    refine ⟨_, _, .ref hp2, rfl, ?_⟩
    walk_at "d"
    refine ⟨p, k, ws, i', ["+"], rfl, hp2, hi', by decide +kernel, by decide +kernel, fun x j' hr G3 hp3 hB3 => ?_, fun w hr G3 hB3 => ?_⟩
    · unfold takesW at hr
      split at hr
      · rename_i e
        have e := List.mem_singleton.mp e
        rw [if_pos e] at he hq
        cases hr
        have hlt := seesW_end hi' (by decide) e
        have hq3 := hB3.at (Ne.symm hpq) hq2
        walk_at "d"
        refine ⟨p, k, ws, i' + 1, zs, rfl, hp3, hlt, hw, hz, fun t2 j2 e2 G4 hp4 hB4 => ?_, fun w e2 G4 hB4 => ?_⟩
        · rw [e2] at he
          have hj2 := rdTerm_le hz.sp hlt e2
          have hq4 := hB4.at (Ne.symm hpq) hq3
          walk_at "d"
          refine while_go hnx rfl (Nat.lt_succ_self m) ⟨rfl, j2, acc ++ [t2], (gput_ne hpq).trans hp4, by rw [gput_same, List.map_append]; rfl, bk_putN ((hB2.trans hB3).trans hB4) hqG, hj2.2, by omega, by rw [List.length_append]; simp; omega, he⟩
        · rw [e2] at hq
          exact hq.2 _ rfl _ ((hB2.trans hB3).trans hB4)
      · cases hr
    · unfold takesW at hr
      split at hr
      · cases hr
      · rename_i e
        rw [if_neg (fun h => e (List.mem_singleton.mpr h))] at hq
        cases hr
        exact hq.2 _ rfl _ (hB2.trans hB3)
def N_read_row : List Str := ["line", "names", "index", "word"]
abbrev t_read_row_1 : TSD := (dSeq (dAsg (dOp xAny (dTup (dCons (dC (.str "round")) (dCons (dC (.str "exact")) dNil))) (dMeth "Line" "takes" sp_Line_takes (dVar 0) (dCons (dLst (dCons (dC (.str "round")) (dCons (dC (.str "exact")) dNil))) dNil))) (gdName 3))
  (dRet (dTup (dCons (dVar 3) (dCons (dCall sp_read_terms (dCons (dVar 0) (dCons (dVar 1) dNil))) dNil)))))
def t_read_row : TSD := (dSeq (dDrop (dMeth "Line" "takes" sp_Line_takes (dVar 0) (dCons (dLst (dCons (dFStr [(dC (.str "r")), (dFmt (dVar 2))]) dNil)) dNil)))
  (dSeq (dDrop (dMeth "Line" "takes" sp_Line_takes (dVar 0) (dCons (dLst (dCons (dC (.str "=")) dNil)) dNil)))
  t_read_row_1))
abbrev RwI := Bool × List TmI
def rdWord (x : Nat) : Bool := decide (x = 0)
abbrev wdV (b : Bool) : Str := if b = true then "round" else "exact"
def rdRow (zs ws : List Str) (k : Nat) : Except Nat (RwI × Nat) := match takesW [rName k] ws 0 with
  | .error w => .error w
  | .ok (_, i) => match takesW ["="] ws i with
    | .error w => .error w
    | .ok (_, i) => match takesW ["round", "exact"] ws i with
      | .error w => .error w
      | .ok (x, i) => match rdTerms zs ws i with
        | .error w => .error w
        | .ok (ts, j) => .ok ((rdWord x, ts), j)
abbrev rIV (r : RwI) : D := .tup [.str (wdV r.1), tsV r.2]
theorem takesW_le {zs ws : List Str} {i x j : Nat} (hi : i ≤ ws.length) (hb : (" " : Str) ∉ zs) (h : takesW zs ws i = .ok (x, j)) : j ≤ ws.length ∧ seesW ws i ∈ zs ∧ x = zs.idxOf (seesW ws i) ∧ j = i + 1 := by
  unfold takesW at h
  split at h
  · rename_i e
    have := seesW_lt hi hb e
    cases h
    exact ⟨this, e, rfl, rfl⟩
  · cases h
theorem rName_tl (k : Nat) : (rName k).cps.toList = 114 :: TL.numL k := by
  have h : TL.tl (rName k) = TL.tl (Str.ofString "r") ++ TL.tl (Str.ofString (toString (k : Int))) := TL.tl_append _ _
  rw [TL.tl_num] at h
  exact h
theorem numL_ok (k : Nat) : ∀ c ∈ TL.numL k, 48 ≤ c ∧ c ≤ 57 := fun c hc => by
  have := TL.numL_digits k c hc
  omega
theorem rName_ok (k : Nat) : ∀ y ∈ [rName k], PyData.strOk y = true := by
  intro y hy
  rw [List.mem_singleton.mp hy]
  unfold PyData.strOk
  rw [← Array.all_toList, rName_tl, List.all_eq_true]
  intro c hc
  rcases List.mem_cons.mp hc with rfl | hc
  · rfl
  · have := numL_ok k c hc
    exact decide_eq_true (by omega)
theorem rName_ne (k : Nat) : rName k ≠ " " := fun h => by
  have h2 : (114 : Nat) :: TL.numL k = [32] := (rName_tl k).symm.trans (congrArg (fun z : Str => z.cps.toList) h)
  cases h2
theorem rName_sp (k : Nat) : (" " : Str) ∉ [rName k] := fun h => rName_ne k (List.mem_singleton.mp h).symm
def sp_read_row : SpD := fun ds G Q E => ∃ (p : Addr) (k : Nat) (ws : List Str) (m : Nat) (zs : List Str), ds = [.ref p, .lst (zs.map D.str), dN m] ∧ m < 1000 ∧ G p = some (lnI k ws 0) ∧ (∀ w ∈ ws, w.length ≤ sizeLine) ∧ NamesOk zs ∧ LnR p k ws (rdRow zs ws m) rIV G Q E
theorem len_read_row : LN sp_read_row 3 := by rintro ds G Q E ⟨p, k, ws, i, zs, rfl, _⟩; rfl
theorem vc_read_row : VC sp_read_row N_read_row t_read_row := by
  rintro ds G Q EX ⟨p, k, ws, m, zs, rfl, hm, hp, hw, hz, hq⟩
  walk_at "go read_row"
  refine ⟨_, _, .ref hp, rfl, ?_⟩
  walk_at "d"
  refine ⟨by decide, st_js (st_fmt ?_)⟩
  walk_at "d"
  have hrl := rName_len (k := m) (by omega)
  refine .inr ⟨m, rfl, log_small (by omega), _, rfl, Nat.le_trans (show _ ≤ 5 from hrl) (by decide), st_jsn ?_⟩
  walk_at "d"
  have hrd : rdRow zs ws m = rdRow zs ws m := rfl
  unfold rdRow at hq
  refine ⟨p, k, ws, 0, [rName m], rfl, hp, Nat.zero_le _, rName_ok m, rName_sp m, fun x1 j1 h1 G1 hp1 hB1 => ?_, fun w h1 => hq.2 w (by rw [h1])⟩
  rw [h1] at hq
  dsimp only at hq
  obtain ⟨hj1, _⟩ := takesW_le (Nat.zero_le _) (rName_sp m) h1
  walk_at "d"
  refine ⟨_, _, .ref hp1, rfl, ?_⟩
  walk_at "d"
  refine ⟨p, k, ws, j1, ["="], rfl, hp1, hj1, by decide +kernel, by decide +kernel, fun x2 j2 h2 G2 hp2 hB2 => ?_, fun w h2 G2 hB2 => hq.2 w (by rw [h2]) G2 (hB1.trans hB2)⟩
  rw [h2] at hq
  dsimp only at hq
  obtain ⟨hj2, _⟩ := takesW_le hj1 (by decide +kernel) h2
  walk_at "d"
  refine ⟨_, _, .ref hp2, rfl, ?_⟩
  walk_at "d"
  refine ⟨p, k, ws, j2, ["round", "exact"], rfl, hp2, hj2, by decide +kernel, by decide +kernel, fun x3 j3 h3 G3 hp3 hB3 => ?_, fun w h3 G3 hB3 => hq.2 w (by rw [h3]) G3 ((hB1.trans hB2).trans hB3)⟩
  rw [h3] at hq
  dsimp only at hq
  obtain ⟨hj3, hm3, hx3, _⟩ := takesW_le hj2 (by decide +kernel) h3
  have hx2 : x3 < 2 := by rw [hx3]; exact List.idxOf_lt_length_iff.mpr hm3
  have hat : atI [D.str "round", D.str "exact"] (x3 : Int) = some (.str (wdV (rdWord x3))) := by
    match x3, hx2 with
    | 0, _ => rfl
    | 1, _ => rfl
  refine st_ix (.tup _) hat ?_
  walk_at "d"
  refine ⟨p, k, ws, j3, zs, rfl, hp3, hj3, hw, hz, fun ts j4 h4 G4 hp4 hB4 => ?_, fun w h4 G4 hB4 => hq.2 w (by rw [h4]) G4 (((hB1.trans hB2).trans hB3).trans hB4)⟩
  rw [h4] at hq
  walk_at "d"
  exact hq.1 _ _ rfl _ hp4 (((hB1.trans hB2).trans hB3).trans hB4)

/-! ### reading the outs, the inputs, a program -/
def N_read_outs : List Str := ["line", "names", "outs"]
abbrev t_read_outs_1 : TSD := (dSeq (dIfS (dTest (dOp (eAny false) (dCB kLen (dCons (dVar 2) dNil)) (dC (.int 4))))
  (dDrop (dMeth "Line" "fails" sp_Line_fails (dVar 0) dNil))
  dNext)
  (dDrop (dBM tyL mAppend (dVar 2) (dCons (dMeth "Line" "takes" sp_Line_takes (dVar 0) (dCons (dVar 1) dNil)) dNil))))
abbrev t_read_outs_2 : TSD := (dSeq (dAsg (dLstM (dCons (dMeth "Line" "takes" sp_Line_takes (dVar 0) (dCons (dVar 1) dNil)) dNil)) (gdName 2))
  (dSeq (dWhile (dNot (dTru (dMeth "Line" "is_over" sp_Line_is_over (dVar 0) dNil)))
  t_read_outs_1)
  (dFrz 2 (dRet (dCB kTuple (dCons (dVar 2) dNil))))))
def t_read_outs : TSD := (dSeq (dDrop (dMeth "Line" "takes" sp_Line_takes (dVar 0) (dCons (dLst (dCons (dC (.str "out")) dNil)) dNil)))
  t_read_outs_2)
def rdOutMore (zs ws : List Str) : Nat → Nat → List Nat → Except Nat (List Nat × Nat)
  | 0, i, acc => .ok (acc, i)
  | f + 1, i, acc => if i = ws.length then .ok (acc, i) else if acc.length = 4 then .error (i + 1) else if seesW ws i ∈ zs then rdOutMore zs ws f (i + 1) (acc ++ [zs.idxOf (seesW ws i)]) else .error (i + 1)
def rdOuts (zs ws : List Str) : Except Nat (List Nat × Nat) := match takesW ["out"] ws 0 with
  | .error w => .error w
  | .ok (_, i) => match takesW zs ws i with
    | .error w => .error w
    | .ok (x, j) => rdOutMore zs ws (ws.length - j) j [x]
abbrev osV (l : List Nat) : D := .tup (l.map dN)
def sp_read_outs : SpD := fun ds G Q E => ∃ (p : Addr) (k : Nat) (ws : List Str) (zs : List Str), ds = [.ref p, .lst (zs.map D.str)] ∧ G p = some (lnI k ws 0) ∧ NamesOk zs ∧ LnR p k ws (rdOuts zs ws) osV G Q E
theorem len_read_outs : LN sp_read_outs 2 := by rintro ds G Q E ⟨p, k, ws, zs, rfl, _⟩; rfl
theorem vc_read_outs : VC sp_read_outs N_read_outs t_read_outs := by
  rintro ds G Q EX ⟨p, k, ws, zs, rfl, hp, hz, hq⟩
  walk_at "go read_outs"
  refine ⟨_, _, .ref hp, rfl, ?_⟩
  walk_at "d"
  unfold rdOuts at hq
  refine ⟨p, k, ws, 0, ["out"], rfl, hp, Nat.zero_le _, by decide +kernel, by decide +kernel, fun x1 j1 h1 G1 hp1 hB1 => ?_, fun w h1 => hq.2 w (by rw [h1])⟩
  rw [h1] at hq
  dsimp only at hq
  obtain ⟨hj1, _⟩ := takesW_le (Nat.zero_le _) (by decide +kernel) h1
  walk_at "d"
  refine ⟨_, _, .ref hp1, rfl, ?_⟩
  walk_at "d"
  refine ⟨p, k, ws, j1, zs, rfl, hp1, hj1, hz.ok, hz.sp, fun x j e1 G2 hp2 hB2 => ?_, fun w e1 G2 hB2 => hq.2 w (by rw [e1]) G2 (hB1.trans hB2)⟩
  rw [e1] at hq
  dsimp only at hq
  obtain ⟨hj, _⟩ := takesW_le hj1 hz.sp e1
  have hB2 : Bk p G G2 := hB1.trans hB2
  walk_at "d"
  intro q hqn
  walk_at "d"
  obtain ⟨hpq, hqG⟩ := bk_fresh hB2 (by rw [hp2]; nofun) hqn
  refine while_set [] (fun m vs G' => vs = [] ∧ ∃ (i' : Nat) (acc : List Nat), G' p = some (lnI k ws i') ∧ G' q = some (.lst (acc.map dN)) ∧ Bk p G G' ∧ i' ≤ ws.length ∧ ws.length - i' ≤ m ∧ acc.length ≤ 4 ∧ rdOutMore zs ws m i' acc = rdOutMore zs ws (ws.length - j) j [x]) (ws.length - j) rfl ⟨rfl, j, [x], (gput_ne hpq).trans hp2, gput_same, bk_putN hB2 hqG, hj, Nat.le_refl _, by simp, rfl⟩ ?_
  rintro m vs G3 nx' ⟨rfl, i', acc, hp3, hq3, hB3, hi', hm, ha, he⟩ hnx
  rw [← he] at hq
  walk_at "sl"
  refine ⟨_, _, .ref hp3, rfl, ?_⟩
  walk_at "d"
  refine ⟨p, k, ws, i', rfl, hp3, ?_⟩
  by_cases hl : i' = ws.length
  · rw [decide_eq_true hl]
    walk_at "d"
    have hr : rdOutMore zs ws m i' acc = .ok (acc, i') := by
      cases m with
      | zero => rfl
      | succ m => unfold rdOutMore; rw [if_pos hl]
    exact hq.1 _ _ hr _ ((gdel_ne hpq).trans hp3) (bk_delN hB3 hqG)
  rw [decide_eq_false hl]
  walk_at "d"
  obtain ⟨m, rfl⟩ : ∃ k, m = k + 1 := ⟨m - 1, by omega⟩
  have hst : rdOutMore zs ws (m + 1) i' acc = if acc.length = 4 then .error (i' + 1) else if seesW ws i' ∈ zs then rdOutMore zs ws m (i' + 1) (acc ++ [zs.idxOf (seesW ws i')]) else .error (i' + 1) := by
    conv => lhs; unfold rdOutMore
    rw [if_neg hl]
  rw [hst] at hq he
  rw [List.length_map]
  by_cases h2 : acc.length = 4
  · rw [if_pos h2] at hq
    rw [h2]
    walk_at "d"
    refine ⟨_, _, .ref hp3, rfl, ?_⟩
    walk_at "d"
    exact ⟨p, k, ws, i', rfl, hp3, hq.2 _ rfl _ hB3⟩
  rw [if_neg h2] at hq he
  rw [decide_eq_false (by omega : ¬ (acc.length : Int) = 4)]
  walk_at "d"
  refine ⟨_, _, .ref hp3, rfl, ?_⟩
  walk_at "d"
  refine ⟨p, k, ws, i', zs, rfl, hp3, hi', hz.ok, hz.sp, fun x j' hr G4 hp4 hB4 => ?_, fun w hr G4 hB4 => ?_⟩
  · obtain ⟨hj', e, rfl, rfl⟩ := takesW_le hi' hz.sp hr
    rw [if_pos e] at he
    have hq4 := hB4.at (Ne.symm hpq) hq3
    walk_at "d"
    refine while_go hnx rfl (Nat.lt_succ_self m) ⟨rfl, i' + 1, acc ++ [zs.idxOf (seesW ws i')], (gput_ne hpq).trans hp4, by rw [gput_same, List.map_append]; rfl, bk_putN (hB3.trans hB4) hqG, hj', by omega, by rw [List.length_append]; simp; omega, he⟩
  · unfold takesW at hr
    split at hr
    · cases hr
    · rename_i e
      rw [if_neg e] at hq
      cases hr
      exact hq.2 _ rfl _ (hB3.trans hB4)
def N_read_inputs : List Str := ["line", "found", "many"]
abbrev t_read_inputs_1 : TSD := (dSeq (dAsg (dMeth "Line" "takes" sp_Line_takes (dVar 0) (dCons (dLc true (iRngD1 (dCons (dOp aAny (dC (.int 4)) (dC (.int 1))) dNil)) (.nm 2) dYes (dCB kStr (dCons (dVar 2) dNil)) [2]) dNil)) (gdName 1))
  (dSeq (dDrop (dMeth "Line" "ends" sp_Line_ends (dVar 0) dNil))
  (dRet (dVar 1))))
def t_read_inputs : TSD := (dSeq (dDrop (dMeth "Line" "takes" sp_Line_takes (dVar 0) (dCons (dLst (dCons (dC (.str "in")) dNil)) dNil)))
  t_read_inputs_1)
def numW : List Str := ["0", "1", "2", "3", "4"]
def rdIn (ws : List Str) : Except Nat (Nat × Nat) := match takesW ["in"] ws 0 with
  | .error w => .error w
  | .ok (_, i) => match takesW numW ws i with
    | .error w => .error w
    | .ok (x, j) => if j = ws.length then .ok (x, j) else .error (j + 1)
def sp_read_inputs : SpD := fun ds G Q E => ∃ (p : Addr) (k : Nat) (ws : List Str), ds = [.ref p] ∧ G p = some (lnI k ws 0) ∧ LnR p k ws (rdIn ws) dN G Q E
theorem len_read_inputs : LN sp_read_inputs 1 := by rintro ds G Q E ⟨p, k, ws, rfl, _⟩; rfl
theorem vc_read_inputs : VC sp_read_inputs N_read_inputs t_read_inputs := by
  rintro ds G Q EX ⟨p, k, ws, rfl, hp, hq⟩
  walk_at "go read_inputs"
  refine ⟨_, _, .ref hp, rfl, ?_⟩
  walk_at "d"
  unfold rdIn at hq
  refine ⟨p, k, ws, 0, ["in"], rfl, hp, Nat.zero_le _, by decide +kernel, by decide +kernel, fun x1 j1 h1 G1 hp1 hB1 => ?_, fun w h1 => hq.2 w (by rw [h1])⟩
  rw [h1] at hq
  dsimp only at hq
  obtain ⟨hj1, _⟩ := takesW_le (Nat.zero_le _) (by decide +kernel) h1
  walk_at "d"
  refine ⟨_, _, .ref hp1, rfl, ?_⟩
  walk_at "d"
  rw [show (4 + 1 : Int).toNat = 5 from rfl]
  refine lc_rg (lc_evY (f := fun k : Nat => D.str (Str.ofString (toString (k : Int)))) (fun _ _ _ => trivial) (by decide) (fun x hx w acc hw => ⟨_, rfl, ?_⟩) ?_)
  · dsimp only [wipeD, List.set]
    intro Qe Ee qe
    have hx2 := List.mem_range.mp hx
    have hl := log_small (k := x) (by omega)
    walk_at "d"
    refine st_strI hl ?_
    exact qe
  rw [show ((List.range 5).map fun k : Nat => D.str (Str.ofString (toString (k : Int)))) = numW.map D.str from by
    have : ((List.range 5).map fun k : Nat => Str.ofString (toString (k : Int))) = numW := by decide +kernel
    rw [← this, List.map_map]; rfl]
  walk_at "d"
  refine ⟨p, k, ws, j1, numW, rfl, hp1, hj1, by decide +kernel, by decide +kernel, fun x2 j2 h2 G2 hp2 hB2 => ?_, fun w h2 G2 hB2 => hq.2 w (by rw [h2]) G2 (hB1.trans hB2)⟩
  rw [h2] at hq
  dsimp only at hq
  walk_at "d"
  refine ⟨_, _, .ref hp2, rfl, ?_⟩
  walk_at "d"
  refine ⟨p, k, ws, j2, rfl, hp2, ?_⟩
  by_cases he : j2 = ws.length
  · rw [if_pos he] at hq ⊢
    walk_at "d"
    exact hq.1 _ _ rfl _ hp2 (hB1.trans hB2)
  · rw [if_neg he] at hq ⊢
    exact hq.2 _ rfl _ (hB1.trans hB2)
def N_read_program : List Str := ["text", "inputs", "line", "outs", "lines", "rows"]
abbrev t_read_program_1 : TSD := (dSeq (dDrop (dBM tyL mAppend (dVar 5) (dCons (dCall sp_read_row (dCons (dVar 2) (dCons (dCall sp_place_names (dCons (dVar 1) (dCons (dCB kLen (dCons (dVar 5) dNil)) dNil))) (dCons (dCB kLen (dCons (dVar 5) dNil)) dNil)))) dNil)))
  (dAsg (dCall sp_line_at (dCons (dVar 4) (dCons (dOp aAny (dCB kLen (dCons (dVar 5) dNil)) (dC (.int 1))) dNil))) (gdName 2)))
abbrev t_read_program_2 : TSD := (dSeq (dDrop (dMeth "Line" "ends" sp_Line_ends (dCall sp_line_at (dCons (dVar 4) (dCons (dOp aAny (dCB kLen (dCons (dVar 5) dNil)) (dC (.int 2))) dNil))) dNil))
  (dRet (dTup (dCons (dVar 1) (dCons (dCB kTuple (dCons (dVar 5) dNil)) (dCons (dVar 3) dNil))))))
abbrev t_read_program_3 : TSD := (dFrz 5 (dSeq (dAsg (dCall sp_read_outs (dCons (dVar 2) (dCons (dCall sp_place_names (dCons (dVar 1) (dCons (dCB kLen (dCons (dVar 5) dNil)) dNil))) dNil))) (gdName 3))
  t_read_program_2))
abbrev t_read_program_4 : TSD := (dSeq (dWhile (dAnd (dTest (dOp (eAny false) (dMeth "Line" "sees" sp_Line_sees (dVar 2) dNil) (dFStr [(dC (.str "r")), (dFmt (dCB kLen (dCons (dVar 5) dNil)))]))) (dTest (dOp cLtI (dCB kLen (dCons (dVar 5) dNil)) (dC (.int 12)))))
  t_read_program_1)
  t_read_program_3)
abbrev t_read_program_5 : TSD := (dSeq (dAsg (dCall sp_read_inputs (dCons (dCall sp_line_at (dCons (dVar 4) (dCons (dC (.int 0)) dNil))) dNil)) (gdName 1))
  (dSeq (dAsg (dCall sp_line_at (dCons (dVar 4) (dCons (dC (.int 1)) dNil))) (gdName 2))
  t_read_program_4))
def t_read_program : TSD := (dSeq (dPar 4 5 (dCons (dSplit true (dVar 0) (dC (.str "\n"))) (dCons (dLstM dNil) dNil)))
  t_read_program_5)
abbrev PrI := Nat × List RwI × List Nat
abbrev prV (x : PrI) : D := .tup [dN x.1, .tup (x.2.1.map rIV), osV x.2.2]
/-- an error of a line's word: the line and the word -/
def rdRows (ls : List Str) (n : Nat) : Nat → List RwI → Except (Nat × Nat) (List RwI)
  | 0, acc => .ok acc
  | f + 1, acc => if seesW (wordsAt ls (acc.length + 1)) 0 = rName acc.length ∧ acc.length < 12 then match rdRow (namesOf n acc.length) (wordsAt ls (acc.length + 1)) acc.length with
    | .error w => .error (acc.length + 2, w)
    | .ok (r, _) => rdRows ls n f (acc ++ [r]) else .ok acc
def rdRest (ls : List Str) (n : Nat) (rs : List RwI) : Except (Nat × Nat) PrI := match rdOuts (namesOf n rs.length) (wordsAt ls (rs.length + 1)) with
  | .error w => .error (rs.length + 2, w)
  | .ok (os, _) => if wordsAt ls (rs.length + 2) = [] then .ok (n, rs, os) else .error (rs.length + 3, 1)
def rdLines (ls : List Str) : Except (Nat × Nat) PrI := match rdIn (wordsAt ls 0) with
  | .error w => .error (1, w)
  | .ok (n, _) => match rdRows ls n 12 [] with
    | .error e => .error e
    | .ok rs => rdRest ls n rs
def readP (z : Str) : Except (Nat × Nat) PrI := rdLines (Txt.split z "\n")
def RdR (r : Except (Nat × Nat) PrI) (G : HH) (Q : QD) (E : ED) : Prop :=
  (∀ x, r = .ok x → ∀ G', Kp G G' → Q (prV x) G') ∧ ∀ l w, r = .error (l, w) → ∀ G', Kp G G' → E ⟨.own "BadText", ["word", "line"], [dN w, dN l]⟩ G'
/-- texts that are short enough -/
structure TxOk (z : Str) : Prop where
  len : z.length + 2 ≤ 1000000
  parts : ∀ l ∈ Txt.split z "\n", l.length + 2 ≤ sizeLine ∧ ∀ w ∈ Txt.split l " ", w.length ≤ sizeLine
def sp_read_program : SpD := fun ds G Q E => ∃ (z : Str), ds = [.str z] ∧ TxOk z ∧ RdR (readP z) G Q E
theorem len_read_program : LN sp_read_program 1 := by rintro ds G Q E ⟨z, rfl, _⟩; rfl
theorem names_ok (n m : Nat) : NamesOk (namesOf n m) := by
  have h4 : ∀ y ∈ ([("a" : Str), "b", "c", "d"]), PyData.strOk y = true ∧ y ≠ " " := by decide +kernel
  refine ⟨fun y hy => ?_, fun h => ?_⟩
  · rcases List.mem_append.mp hy with hy | hy
    · exact (h4 y (List.mem_of_mem_take hy)).1
    · obtain ⟨k, _, rfl⟩ := List.mem_map.mp hy
      exact rName_ok k _ (by simp)
  · rcases List.mem_append.mp h with hy | hy
    · exact (h4 _ (List.mem_of_mem_take hy)).2 rfl
    · obtain ⟨k, _, h⟩ := List.mem_map.mp hy
      exact rName_ne k h
theorem words_len {z : Str} (h : TxOk z) (i : Nat) : ∀ w ∈ wordsAt (Txt.split z "\n") i, w.length ≤ sizeLine := by
  intro w hw
  unfold wordsAt at hw
  split at hw
  · rename_i hi
    exact (h.parts _ (getD_mem hi)).2 w hw
  · cases hw
theorem rdIn_le {ws : List Str} {n j : Nat} (h : rdIn ws = .ok (n, j)) : n ≤ 4 := by
  unfold rdIn at h
  split at h
  · cases h
  · split at h
    · cases h
    · rename_i x j2 e
      have hx : x < 5 := by
        unfold takesW at e
        split at e
        · rename_i hm
          cases e
          exact List.idxOf_lt_length_iff.mpr hm
        · cases e
      split at h
      · cases h; omega
      · cases h
theorem kp_put {G : HH} {q : Addr} {o : HOD} (h : G q = none) : Kp G (gput G q o) := fun c hc => gput_ne (fun e => hc (by rw [e]; exact h))
theorem kp_add {G G' : HH} {q : Addr} {o : HOD} (k : Kp G G') (h : G' q = none) : Kp G (gput G' q o) := fun c hc => (gput_ne (fun e => hc (by rw [← k c hc, e]; exact h))).trans (k c hc)
theorem kp_none {G G' : HH} {p : Addr} (k : Kp G G') (h : G' p = none) : G p = none := by
  cases e : G p with
  | none => rfl
  | some o =>
    have := k p (by rw [e]; nofun)
    rw [h, e] at this
    cases this
theorem kp_bk {G G' G2 : HH} {p : Addr} (k : Kp G G') (hB : Bk p G' G2) (h : G p = none) : Kp G G2 := fun c hc => by
  have n : c ≠ p := fun e => hc (by rw [e]; exact h)
  have e := k c hc
  rw [hB c n (by rw [e]; exact hc), e]
theorem kp_del {G G' : HH} {q : Addr} (k : Kp G G') (h : G q = none) : Kp G (gdel G' q) := fun c hc => (gdel_ne (fun e => hc (by rw [e]; exact h))).trans (k c hc)
theorem kp_upd {G G' : HH} {q : Addr} {o : HOD} (k : Kp G G') (h : G q = none) : Kp G (gput G' q o) := fun c hc => (gput_ne (fun e => hc (by rw [e]; exact h))).trans (k c hc)
theorem kp_new {G G' G2 : HH} {p : Addr} {o : HOD} (k : Kp G G') (h : G' p = none) (hB : Bk p (gput G' p o) G2) : Kp G G2 := fun c hc => by
  have n : c ≠ p := fun e => hc (by rw [← k c hc, e]; exact h)
  have e : gput G' p o c = G c := (gput_ne n).trans (k c hc)
  rw [hB c n (by rw [e]; exact hc), e]
theorem vc_read_program : VC sp_read_program N_read_program t_read_program := by
  rintro ds G Q EX ⟨z, rfl, hz, hq⟩
  walk_at "go read_program"
  refine st_splT (by decide) (by have := hz.len; rw [sizeLine_eq]; omega) ?_
  walk_at "d"
  intro q hqn
  walk_at "d"
  have hls : ∀ l ∈ Txt.split z "\n", l.length + 2 ≤ sizeLine := fun l hl => (hz.parts l hl).1
  have hwl := words_len hz
  unfold readP at hq
  generalize Txt.split z "\n" = ls at *
  refine ⟨ls, 0, rfl, hls, fun p1 hp1 => ?_⟩
  walk_at "d"
  unfold rdLines at hq
  refine ⟨p1, 1, wordsAt ls 0, rfl, gput_same, fun n j e1 G1 hpa hB1 => ?_, fun w e1 G1 hB1 => hq.2 1 w (by rw [e1]) G1 (kp_new (kp_put hqn) hp1 hB1)⟩
  rw [e1] at hq
  dsimp only at hq
  have hn4 := rdIn_le e1
  have hK1 : Kp G G1 := kp_new (kp_put hqn) hp1 hB1
  have hqp1 : q ≠ p1 := fun e => by subst e; rw [gput_same] at hp1; cases hp1
  have hq1 : G1 q = some (.lst []) := hB1.at hqp1 ((gput_ne hqp1).trans gput_same)
  walk_at "d"
  refine ⟨ls, 1, rfl, hls, fun p2 hp2 => ?_⟩
  walk_at "d"
  have hqp2 : q ≠ p2 := fun e => by subst e; rw [hq1] at hp2; cases hp2
  refine while_set [2] (fun m vs G' => ∃ (pl : Addr) (acc : List RwI), vs = [some (.ref pl)] ∧ G pl = none ∧ G' pl = some (lnI (acc.length + 2) (wordsAt ls (acc.length + 1)) 0) ∧ G' q = some (.lst (acc.map rIV)) ∧ Kp G G' ∧ acc.length + m = 12 ∧ rdRows ls n m acc = rdRows ls n 12 []) 12 rfl ⟨p2, [], rfl, kp_none hK1 hp2, gput_same, (gput_ne hqp2).trans hq1, kp_add hK1 hp2, rfl, rfl⟩ ?_
  rintro m vs G2 nx' ⟨pl, acc, rfl, hplG, hpl, hq2, hK2, hm, he⟩ hnx
  rw [← he] at hq
  have hplq : pl ≠ q := fun e => by rw [e, hq2] at hpl; cases hpl
  have hrl := rName_len (k := acc.length) (by omega)
  walk_at "sl"
  refine ⟨_, _, .ref hpl, rfl, ?_⟩
  walk_at "d"
  refine ⟨pl, _, _, 0, rfl, hpl, Nat.zero_le _, ?_⟩
  walk_at "d"
  refine ⟨by decide, st_js (st_fmt ?_)⟩
  walk_at "d"
  rw [List.length_map]
  refine .inr ⟨(acc.length : Int), rfl, log_small (by omega), _, rfl, Nat.le_trans (show _ ≤ 5 from hrl) (by decide), st_jsn ?_⟩
  walk_at "d"
  rw [show Str.empty ++ Str.ofString "r" ++ Str.ofString (toString (acc.length : Int)) = rName acc.length from by rw [PySem.Str.empty_append]; rfl]
  by_cases hc1 : seesW (wordsAt ls (acc.length + 1)) 0 = rName acc.length
  · rw [decide_eq_true hc1]
    walk_at "d"
    rw [List.length_map]
    by_cases hc2 : acc.length < 12
    · rw [decide_eq_true (by omega : (acc.length : Int) < 12)]
      walk_at "d"
      obtain ⟨m, rfl⟩ : ∃ k, m = k + 1 := ⟨m - 1, by omega⟩
      have hst : rdRows ls n (m + 1) acc = match rdRow (namesOf n acc.length) (wordsAt ls (acc.length + 1)) acc.length with
        | .error w => .error (acc.length + 2, w)
        | .ok (r, _) => rdRows ls n m (acc ++ [r]) := by
        conv => lhs; unfold rdRows
        rw [if_pos ⟨hc1, hc2⟩]
      rw [hst] at hq he
      refine ⟨n, acc.length, by simp, hn4, by omega, ?_⟩
      walk_at "d"
      refine ⟨pl, acc.length + 2, wordsAt ls (acc.length + 1), acc.length, namesOf n acc.length, by simp, by omega, hpl, hwl _, names_ok _ _, fun r j3 e3 G3 hp3 hB3 => ?_, fun w e3 G3 hB3 => hq.2 (acc.length + 2) w (by rw [e3]) G3 (kp_bk hK2 hB3 hplG)⟩
      rw [e3] at he
      have hq3 := hB3.at (Ne.symm hplq) hq2
      have hK3 := kp_bk hK2 hB3 hplG
      walk_at "d"
      refine ⟨ls, acc.length + 2, by simp; omega, hls, fun p3 hp3 => ?_⟩
      walk_at "d"
      have hqp3 : q ≠ p3 := fun e => by subst e; rw [gput_same] at hp3; cases hp3
      have hK4 : Kp G (gput G3 q (.lst (acc.map rIV ++ [rIV r]))) := kp_upd hK3 hqn
      refine while_go hnx rfl (Nat.lt_succ_self m) ⟨p3, acc ++ [r], rfl, kp_none hK4 hp3, by rw [List.length_append, List.length_singleton]; exact gput_same, (gput_ne hqp3).trans (by rw [gput_same, List.map_append]; rfl), kp_add hK4 hp3, by simp; omega, he⟩
    · rw [decide_eq_false (by omega : ¬ (acc.length : Int) < 12)]
      walk_at "d"
      have hex : rdRows ls n m acc = .ok acc := by
        obtain rfl : m = 0 := by omega
        rfl
      refine ⟨n, acc.length, by simp, hn4, by omega, ?_⟩
      walk_at "d"
      refine ⟨pl, acc.length + 2, wordsAt ls (acc.length + 1), namesOf n acc.length, rfl, (gdel_ne hplq).trans hpl, names_ok _ _, fun os j2 e2 G4 hp4 hB4 => ?_, fun w e2 G4 hB4 => hq.2 (acc.length + 2) w (by rw [hex]; show rdRest ls n acc = _; unfold rdRest; rw [e2]) G4 (kp_bk (kp_del hK2 hqn) hB4 hplG)⟩
      have hK4 := kp_bk (kp_del hK2 hqn) hB4 hplG
      walk_at "d"
      refine ⟨ls, acc.length + 2, by simp, hls, fun p3 hp3 => ?_⟩
      refine ⟨_, _, .ref gput_same, rfl, ?_⟩
      walk_at "d"
      refine ⟨p3, acc.length + 3, wordsAt ls (acc.length + 2), 0, rfl, gput_same, ?_⟩
      have hK5 := kp_add (o := lnI (acc.length + 3) (wordsAt ls (acc.length + 2)) 0) hK4 hp3
      by_cases h0 : wordsAt ls (acc.length + 2) = []
      · rw [if_pos (by rw [h0]; rfl)]
        walk_at "d"
        exact hq.1 (n, acc, os) (by rw [hex]; show rdRest ls n acc = _; unfold rdRest; rw [e2]; exact if_pos h0) _ hK5
      · rw [if_neg (fun e => h0 (List.eq_nil_of_length_eq_zero e.symm))]
        exact hq.2 (acc.length + 3) 1 (by rw [hex]; show rdRest ls n acc = _; unfold rdRest; rw [e2]; exact if_neg h0) _ hK5
  · rw [decide_eq_false hc1]
    walk_at "d"
    have hex : rdRows ls n m acc = .ok acc := by
      cases m with
      | zero => rfl
      | succ m => unfold rdRows; rw [if_neg (fun h => hc1 h.1)]
    refine ⟨n, acc.length, by simp, hn4, by omega, ?_⟩
    walk_at "d"
    refine ⟨pl, acc.length + 2, wordsAt ls (acc.length + 1), namesOf n acc.length, rfl, (gdel_ne hplq).trans hpl, names_ok _ _, fun os j2 e2 G4 hp4 hB4 => ?_, fun w e2 G4 hB4 => hq.2 (acc.length + 2) w (by rw [hex]; show rdRest ls n acc = _; unfold rdRest; rw [e2]) G4 (kp_bk (kp_del hK2 hqn) hB4 hplG)⟩
    have hK4 := kp_bk (kp_del hK2 hqn) hB4 hplG
    walk_at "d"
    refine ⟨ls, acc.length + 2, by simp, hls, fun p3 hp3 => ?_⟩
    refine ⟨_, _, .ref gput_same, rfl, ?_⟩
    walk_at "d"
    refine ⟨p3, acc.length + 3, wordsAt ls (acc.length + 2), 0, rfl, gput_same, ?_⟩
    have hK5 := kp_add (o := lnI (acc.length + 3) (wordsAt ls (acc.length + 2)) 0) hK4 hp3
    by_cases h0 : wordsAt ls (acc.length + 2) = []
    · rw [if_pos (by rw [h0]; rfl)]
      walk_at "d"
      exact hq.1 (n, acc, os) (by rw [hex]; show rdRest ls n acc = _; unfold rdRest; rw [e2]; exact if_pos h0) _ hK5
    · rw [if_neg (fun e => h0 (List.eq_nil_of_length_eq_zero e.symm))]
      exact hq.2 (acc.length + 3) 1 (by rw [hex]; show rdRest ls n acc = _; unfold rdRest; rw [e2]; exact if_neg h0) _ hK5

/-! ### the law's own texts -/
theorem names_add {n m : Nat} {G : HH} {Q : QD} (hm : m ≤ 1000) (hq : Q (.lst ((namesOf n m).map D.str)) G) : aAny (.lst (dcut [D.str "a", D.str "b", D.str "c", D.str "d"] none (some (n : Int)))) (.lst ((List.range m).map fun k => D.str (rName k))) G Q := by
  have ed : dcut [D.str "a", D.str "b", D.str "c", D.str "d"] none (some (n : Int)) = ([("a" : Str), "b", "c", "d"].take n).map D.str := (dcut_take [D.str "a", D.str "b", D.str "c", D.str "d"] n).trans (by rw [List.map_take]; rfl)
  have er : (List.range m).map (fun k => D.str (rName k)) = ((List.range m).map rName).map D.str := by rw [List.map_map]; rfl
  rw [ed, er]
  exact st_addLm (by rw [List.length_take, List.length_map, List.length_range, sizeLine_eq]; simp; omega) hq
theorem sum_all {B : Nat} : ∀ {ys : List Str}, (∀ y ∈ ys, y.length ≤ B) → (ys.map (·.length)).sum ≤ B * ys.length
  | [], _ => by simp
  | y :: ys, h => by
    have h1 := h y (by simp)
    have h2 := sum_all (ys := ys) fun z hz => h z (List.mem_cons_of_mem _ hz)
    simp only [List.map_cons, List.sum_cons, List.length_cons, Nat.mul_add, Nat.mul_one]
    omega
theorem join_le {B : Nat} {sep : Str} {ys : List Str} (h : ∀ y ∈ ys, y.length ≤ B) : (Txt.join sep ys).length ≤ B * ys.length + ys.length * sep.length := by
  have e : (Txt.join sep ys).length = (ys.map (·.length)).sum + (ys.length - 1) * sep.length := size_glued sep ys
  have := sum_all h
  have h2 : (ys.length - 1) * sep.length ≤ ys.length * sep.length := Nat.mul_le_mul_right _ (Nat.sub_le _ _)
  omega
theorem log40 {i : Int} (h : i.natAbs < 10 ^ 40) : i.natAbs.log2 < 1920 := by
  by_cases h0 : i.natAbs = 0
  · rw [h0]; decide
  · rw [Nat.log2_lt h0]
    exact Nat.lt_of_lt_of_le h (by decide +kernel)
def OkS (x : Str) : Prop := ∀ c ∈ TL.tl x, c < 0x110000
theorem OkS.ok {x : Str} (h : OkS x) : PyData.strOk x = true := by
  unfold PyData.strOk
  rw [← Array.all_toList, List.all_eq_true]
  exact fun c hc => decide_eq_true (h c hc)
theorem OkS.of {x : Str} (h : PyData.strOk x = true) : OkS x := by
  unfold PyData.strOk at h
  rw [← Array.all_toList, List.all_eq_true] at h
  exact fun c hc => of_decide_eq_true (h c hc)
theorem OkS.add {x y : Str} (hx : OkS x) (hy : OkS y) : OkS (x ++ y) := by
  intro c hc
  rw [TL.tl_append] at hc
  exact (List.mem_append.mp hc).elim (hx c) (hy c)
theorem OkS.lit (s : String) : OkS (Str.ofString s) := by
  intro c hc
  rw [TL.tl_ofString] at hc
  obtain ⟨d, _, rfl⟩ := List.mem_map.mp hc
  have := d.valid
  rcases this with h | h
  · exact Nat.lt_trans h (by decide)
  · exact h.2
theorem OkS.join {y : Str} (hy : OkS y) : ∀ {ps : List Str}, (∀ p ∈ ps, OkS p) → OkS (Txt.join y ps) := by
  intro ps hp c hc
  rw [TL.join_eq, TL.tl_join] at hc
  have : ∀ ls : List (List Nat), (∀ l ∈ ls, ∀ c ∈ l, c < 0x110000) → ∀ c ∈ TL.joinL (TL.tl y) ls, c < 0x110000 := by
    intro ls
    induction ls with
    | nil => intro _ c hc; cases hc
    | cons l r ih =>
      intro h c hc
      cases r with
      | nil => exact h l (by simp) c hc
      | cons l2 r =>
        have hc : c ∈ l ++ (TL.tl y ++ TL.joinL (TL.tl y) (l2 :: r)) := hc
        rcases List.mem_append.mp hc with hc | hc
        · exact h l (by simp) c hc
        · rcases List.mem_append.mp hc with hc | hc
          · exact hy c hc
          · exact ih (fun l hl => h l (List.mem_cons_of_mem _ hl)) c hc
  refine this _ (fun l hl => ?_) c hc
  obtain ⟨p, hm, rfl⟩ := List.mem_map.mp hl
  exact hp p hm
def numT (i : Int) : Str := Str.ofString (toString i)
abbrev zAt (zs : List Str) (p : Nat) : Str := zs.getD p ""
def termText (zs : List Str) (t : TmI) : Str := Txt.join " " (numT t.1 :: t.2.map (zAt zs))
def lineText (zs : List Str) (k : Nat) (r : RwI) : Str := rName k ++ " = " ++ wdV r.1 ++ " " ++ (if r.2 = [] then ("none" : Str) else Txt.join " + " (r.2.map (termText zs)))
theorem numT_len {i : Int} (h : i.natAbs < 10 ^ 40) : (numT i).length ≤ 41 := by
  have := int_text_length_le10 (k := 40) (by decide) h
  unfold numT
  rw [PySem.ofString_length]
  exact this
/-- terms that may be told -/
def TOk (zs : List Str) (t : TmI) : Prop := t.1.natAbs < 10 ^ 40 ∧ t.2.length ≤ 10 ∧ ∀ p ∈ t.2, p < zs.length
def RkI (zs : List Str) (r : RwI) : Prop := r.2.length ≤ 20 ∧ ∀ t ∈ r.2, TOk zs t
def ZOk (zs : List Str) : Prop := ∀ z ∈ zs, z.length ≤ 5 ∧ OkS z
theorem zAt_len {zs : List Str} (hz : ZOk zs) (p : Nat) : (zAt zs p).length ≤ 5 := by
  by_cases h : p < zs.length
  · exact (hz _ (getD_mem h)).1
  · unfold zAt
    rw [List.getD_eq_getElem?_getD, List.getElem?_eq_none (by omega)]
    decide
theorem term_parts {zs : List Str} {t : TmI} (hz : ZOk zs) (ht : TOk zs t) : ∀ y ∈ numT t.1 :: t.2.map (zAt zs), y.length ≤ 41 := by
  intro y hy
  rcases List.mem_cons.mp hy with rfl | hy
  · exact numT_len ht.1
  · obtain ⟨p, _, rfl⟩ := List.mem_map.mp hy
    exact Nat.le_trans (zAt_len hz p) (by decide)
theorem termText_len {zs : List Str} {t : TmI} (hz : ZOk zs) (ht : TOk zs t) : (termText zs t).length ≤ 600 := by
  have h := join_le (sep := " ") (term_parts hz ht)
  have h1 : (" " : Str).length = 1 := by decide
  have h2 := ht.2.1
  rw [h1, List.length_cons, List.length_map] at h
  unfold termText
  omega
theorem zAt_ok {zs : List Str} (hz : ZOk zs) (p : Nat) : OkS (zAt zs p) := by
  by_cases h : p < zs.length
  · exact (hz _ (getD_mem h)).2
  · unfold zAt
    rw [List.getD_eq_getElem?_getD, List.getElem?_eq_none (by omega)]
    exact OkS.lit ""
theorem termText_ok {zs : List Str} {t : TmI} (hz : ZOk zs) : OkS (termText zs t) := by
  refine OkS.join (OkS.lit " ") fun y hy => ?_
  rcases List.mem_cons.mp hy with rfl | hy
  · exact OkS.lit _
  · obtain ⟨p, _, rfl⟩ := List.mem_map.mp hy
    exact zAt_ok hz p
theorem gds_strs {ps : List Str} (h : ∀ p ∈ ps, OkS p) (n : Nat) : gds (n + 1) (ps.map D.str) := gds_map fun p hp => by
  have := (h p hp).ok
  simpa [gd] using this
theorem lineText_len {zs : List Str} {k : Nat} {r : RwI} (hk : k < 1000) (hz : ZOk zs) (hr : RkI zs r) : (lineText zs k r).length ≤ 13000 := by
  have hrn := rName_len (k := k) (by omega)
  have h3 : (" = " : Str).length = 3 := by decide
  have h2 : (" " : Str).length = 1 := by decide
  have h4 : ("none" : Str).length = 4 := by decide
  have h5 : (wdV r.1).length ≤ 5 := by cases r.1 <;> decide
  have hb : ∀ y ∈ r.2.map (termText zs), y.length ≤ 600 := fun y hy => by
    obtain ⟨t, ht, rfl⟩ := List.mem_map.mp hy
    exact termText_len hz (hr.2 t ht)
  have hj := join_le (sep := " + ") hb
  have hl := hr.1
  rw [show (" + " : Str).length = 3 by decide, List.length_map] at hj
  unfold lineText
  rw [PySem.Str.length_append, PySem.Str.length_append, PySem.Str.length_append, PySem.Str.length_append]
  split
  · omega
  · omega
def progText (x : PrI) : Str := Txt.join "\n" (("in " ++ numT x.1) :: ((List.range x.2.1.length).map fun k => lineText (namesOf x.1 x.2.1.length) k (x.2.1.getD k (false, []))) ++ ["out " ++ Txt.join " " (x.2.2.map (zAt (namesOf x.1 x.2.1.length)))])
structure PkI (x : PrI) : Prop where
  n : x.1 ≤ 4
  m : x.2.1.length ≤ 100
  rows : ∀ r ∈ x.2.1, RkI (namesOf x.1 x.2.1.length) r
  o : x.2.2.length ≤ 20
  outs : ∀ p ∈ x.2.2, p < (namesOf x.1 x.2.1.length).length
theorem names_zok {n m : Nat} (hm : m ≤ 1000) : ZOk (namesOf n m) := by
  intro z hz
  refine ⟨?_, OkS.of ((names_ok n m).ok z hz)⟩
  rcases List.mem_append.mp hz with hy | hy
  · have h4 : ∀ y ∈ ([("a" : Str), "b", "c", "d"]), y.length ≤ 5 := by decide +kernel
    exact h4 z (List.mem_of_mem_take hy)
  · obtain ⟨k, hk, rfl⟩ := List.mem_map.mp hy
    have := List.mem_range.mp hk
    exact rName_len (by omega)
theorem row_at {rs : List RwI} {k : Nat} (h : k < rs.length) : atI (rs.map rIV) (k : Int) = some (rIV (rs.getD k (false, []))) := atI_nat (by
  rw [List.getElem?_map, List.getElem?_eq_getElem h, List.getD_eq_getElem?_getD, List.getElem?_eq_getElem h]; rfl)

/-! ### programs that the law draws -/
/-- a drawn term over so many places -/
def DTm (n : Nat) (t : TmI) : Prop := t.1.natAbs ≤ 99 ∧ t.2.length ≤ 2 ∧ ∀ q ∈ t.2, q < n
theorem natsOf {m : Nat} : ∀ {ds : List D}, (∀ d ∈ ds, ∃ i : Nat, d = dN i ∧ i < m) → ∃ l : List Nat, ds = l.map dN ∧ ∀ i ∈ l, i < m
  | [], _ => ⟨[], rfl, by simp⟩
  | d :: ds, h => by
    obtain ⟨i, rfl, hi⟩ := h d (by simp)
    obtain ⟨l, e, hl⟩ := natsOf (m := m) (ds := ds) fun e he => h e (List.mem_cons_of_mem _ he)
    subst e
    exact ⟨i :: l, rfl, fun j hj => (List.mem_cons.mp hj).elim (fun e => by rw [e]; exact hi) fun e => hl j e⟩
/-- a drawn program -/
structure DPr (x : PrI) : Prop where
  n : x.1 ≤ 4
  m : x.2.1.length ≤ 12
  pos : 0 < x.1 + x.2.1.length
  rows : ∀ k r, x.2.1[k]? = some r → r.2.length ≤ 6 ∧ ∀ t ∈ r.2, DTm (x.1 + k) t
  o : 0 < x.2.2.length ∧ x.2.2.length ≤ 4
  outs : ∀ p ∈ x.2.2, p < x.1 + x.2.1.length

/-! ### a text that is read is the program that was told -/
theorem tl_lit (s : String) : TL.tl (Str.ofString s) = s.toList.map Char.toNat := TL.tl_ofString s
/-- words with a blank between them -/
theorem joinL_app (S : List Nat) : ∀ (a b : List (List Nat)), a ≠ [] → b ≠ [] → TL.joinL S (a ++ b) = TL.joinL S a ++ (S ++ TL.joinL S b)
  | [p], q :: r, _, _ => rfl
  | p :: q :: r, b, _, hb => by
    show p ++ (S ++ TL.joinL S (q :: r ++ b)) = _
    rw [joinL_app S (q :: r) b (by simp) hb]
    show _ = p ++ (S ++ TL.joinL S (q :: r)) ++ (S ++ TL.joinL S b)
    simp only [List.append_assoc]
def termW (zs : List Str) (t : TmI) : List Str := numT t.1 :: t.2.map (zAt zs)
def termsW (zs : List Str) : List TmI → List Str
  | [] => []
  | [t] => termW zs t
  | t :: u :: r => termW zs t ++ ("+" : Str) :: termsW zs (u :: r)
theorem termsW_ne {zs : List Str} : ∀ {ts : List TmI}, ts ≠ [] → termsW zs ts ≠ []
  | [_], _ => by simp [termsW, termW]
  | _ :: _ :: _, _ => by simp [termsW]
theorem tl_terms (zs : List Str) : ∀ ts : List TmI, TL.joinL [32, 43, 32] (ts.map fun t => TL.joinL [32] ((termW zs t).map TL.tl)) = TL.joinL [32] ((termsW zs ts).map TL.tl)
  | [] => rfl
  | [t] => rfl
  | t :: u :: r => by
    show TL.joinL [32] ((termW zs t).map TL.tl) ++ ([32, 43, 32] ++ TL.joinL [32, 43, 32] ((u :: r).map fun t => TL.joinL [32] ((termW zs t).map TL.tl))) = _
    rw [tl_terms zs (u :: r)]
    have e : (termsW zs (t :: u :: r)).map TL.tl = (termW zs t).map TL.tl ++ (([[43]] : List (List Nat)) ++ (termsW zs (u :: r)).map TL.tl) := by
      show (termW zs t ++ ("+" : Str) :: termsW zs (u :: r)).map TL.tl = _
      rw [List.map_append, List.map_cons]; rfl
    rw [e, joinL_app _ _ _ (by simp [termW]) (by simp), joinL_app _ _ _ (by simp) (by simpa using termsW_ne (by simp))]
    simp only [TL.joinL, List.append_assoc, List.cons_append, List.nil_append]
def lineW (zs : List Str) (k : Nat) (r : RwI) : List Str := rName k :: ("=" : Str) :: wdV r.1 :: (if r.2 = [] then [("none" : Str)] else termsW zs r.2)
theorem line_join (zs : List Str) (k : Nat) (r : RwI) : lineText zs k r = Txt.join " " (lineW zs k r) := by
  refine TL.ext_tl ?_
  rw [TL.join_eq, TL.tl_join]
  unfold lineText lineW
  rw [TL.tl_append, TL.tl_append, TL.tl_append, TL.tl_append]
  have e3 : TL.tl (" = " : Str) = [32, 61, 32] := rfl
  have e1 : TL.tl (" " : Str) = [32] := rfl
  have ee : TL.tl ("=" : Str) = [61] := rfl
  rw [e3, e1]
  by_cases h : r.2 = []
  · rw [if_pos h, if_pos h]
    simp only [List.map_cons, List.map_nil, TL.joinL, ee, List.append_assoc, List.cons_append, List.nil_append]
  · rw [if_neg h, if_neg h, TL.join_eq, TL.tl_join, List.map_map]
    have e4 : TL.tl (" + " : Str) = [32, 43, 32] := rfl
    have e5 : r.2.map (TL.tl ∘ termText zs) = r.2.map fun t => TL.joinL [32] ((termW zs t).map TL.tl) := List.map_congr_left fun t _ => by
      show TL.tl (Txt.join " " (termW zs t)) = _
      rw [TL.join_eq, TL.tl_join, e1]
    rw [e4, e5, tl_terms]
    obtain ⟨w, ws, hw⟩ : ∃ w ws, termsW zs r.2 = w :: ws := List.exists_cons_of_ne_nil (termsW_ne h)
    rw [hw]
    simp only [List.map_cons, TL.joinL, ee, List.append_assoc, List.cons_append, List.nil_append]

/-! ### names and numbers as words -/
/-- a word: no blank, no end of a line; and none of the marks -/
structure Word (w : Str) : Prop where
  sp : (32 : Nat) ∉ TL.tl w
  nl : (10 : Nat) ∉ TL.tl w
theorem num_facts : ∀ k ∈ List.range 199, numT ((k : Int) - 99) ∈ nums99 ∧ valOf (numT ((k : Int) - 99)) = (k : Int) - 99 ∧ (32 : Nat) ∉ TL.tl (numT ((k : Int) - 99)) ∧ (10 : Nat) ∉ TL.tl (numT ((k : Int) - 99)) ∧ numT ((k : Int) - 99) ≠ "none" ∧ (numT ((k : Int) - 99)).length ≤ 3 := by decide +kernel
theorem num_fact {c : Int} (h : c.natAbs ≤ 99) : numT c ∈ nums99 ∧ valOf (numT c) = c ∧ Word (numT c) ∧ numT c ≠ "none" ∧ (numT c).length ≤ 3 := by
  have h2 := num_facts (c + 99).toNat (List.mem_range.mpr (by omega))
  have e : (((c + 99).toNat : Nat) : Int) - 99 = c := by omega
  rw [e] at h2
  exact ⟨h2.1, h2.2.1, ⟨h2.2.2.1, h2.2.2.2.1⟩, h2.2.2.2.2.1, h2.2.2.2.2.2⟩
theorem rName_word (k : Nat) : Word (rName k) := by
  have h : TL.tl (rName k) = 114 :: TL.numL k := rName_tl k
  constructor
  · rw [h]
    intro hm
    rcases List.mem_cons.mp hm with e | hm
    · cases e
    · have := numL_ok k _ hm
      omega
  · rw [h]
    intro hm
    rcases List.mem_cons.mp hm with e | hm
    · cases e
    · have := numL_ok k _ hm
      omega
theorem rName_inj {i j : Nat} (h : rName i = rName j) : i = j := by
  have h2 : (114 : Nat) :: TL.numL i = 114 :: TL.numL j := (rName_tl i).symm.trans ((congrArg (fun z : Str => z.cps.toList) h).trans (rName_tl j))
  exact TL.numL_inj (List.cons.inj h2).2
theorem rName_head {k : Nat} {w : Str} (hw : (TL.tl w).head? ≠ some 114) : rName k ≠ w := fun e => hw (by
  have h : TL.tl (rName k) = 114 :: TL.numL k := rName_tl k
  rw [← e, h]; rfl)
theorem abcd : (("a" : Str) :: "b" :: "c" :: "d" :: []).Nodup ∧ ∀ w ∈ [("a" : Str), "b", "c", "d"], ((32 : Nat) ∉ TL.tl w ∧ (10 : Nat) ∉ TL.tl w) ∧ (TL.tl w).head? ≠ some 114 ∧ w ≠ "+" := by decide +kernel
theorem names_nodup (n m : Nat) : (namesOf n m).Nodup := by
  unfold namesOf
  rw [List.nodup_append]
  refine ⟨List.Nodup.sublist (List.take_sublist _ _) abcd.1, ?_, fun a ha b hb => ?_⟩
  · show List.Pairwise _ _
    rw [List.pairwise_map]
    exact List.Pairwise.imp (fun h e => h (rName_inj e)) (List.nodup_range (n := m))
  · obtain ⟨k, _, rfl⟩ := List.mem_map.mp hb
    exact fun e => rName_head (abcd.2 a (List.mem_of_mem_take ha)).2.1 e.symm
theorem names_len {n m : Nat} (hn : n ≤ 4) : (namesOf n m).length = n + m := by
  unfold namesOf
  rw [List.length_append, List.length_take, List.length_map, List.length_range]
  simp; omega
theorem names_word {n m : Nat} : ∀ w ∈ namesOf n m, Word w ∧ w ≠ "+" := by
  intro w hw
  rcases List.mem_append.mp hw with h | h
  · have := abcd.2 w (List.mem_of_mem_take h)
    exact ⟨⟨this.1.1, this.1.2⟩, this.2.2⟩
  · obtain ⟨k, _, rfl⟩ := List.mem_map.mp h
    exact ⟨rName_word k, rName_head (by decide)⟩
theorem names_idx {n m p : Nat} (hn : n ≤ 4) (hp : p < n + m) : zAt (namesOf n m) p ∈ namesOf n m ∧ (namesOf n m).idxOf (zAt (namesOf n m) p) = p := by
  have hl : p < (namesOf n m).length := by rw [names_len hn]; exact hp
  refine ⟨getD_mem hl, ?_⟩
  have e : zAt (namesOf n m) p = (namesOf n m)[p] := by unfold zAt; rw [List.getD_eq_getElem?_getD, List.getElem?_eq_getElem hl]; rfl
  rw [e]
  exact List.Nodup.idxOf_getElem (names_nodup n m) p hl
/-- earlier rows know fewer names -/
theorem names_pre {n m k p : Nat} (hn : n ≤ 4) (hk : k ≤ m) (hp : p < n + k) : zAt (namesOf n m) p = zAt (namesOf n k) p := by
  have e : namesOf n m = namesOf n k ++ (List.range' k (m - k)).map rName := by
    unfold namesOf
    rw [List.append_assoc, ← List.map_append]
    congr 2
    have : m = k + (m - k) := by omega
    conv => lhs; rw [this]
    rw [List.range_eq_range', List.range_eq_range', ← List.range'_append_1, Nat.zero_add]
  have hl : p < (namesOf n k).length := by rw [names_len hn]; exact hp
  unfold zAt
  rw [e, List.getD_eq_getElem?_getD, List.getD_eq_getElem?_getD, List.getElem?_append_left hl]
/-! ### reading the words again -/
theorem sees_cons {ws : List Str} {i : Nat} {w : Str} {r : List Str} (h : ws.drop i = w :: r) : i < ws.length ∧ seesW ws i = w ∧ ws.drop (i + 1) = r := by
  have hl : i < ws.length := by
    rcases Nat.lt_or_ge i ws.length with h1 | h1
    · exact h1
    · rw [List.drop_eq_nil_of_le h1] at h; cases h
  rw [List.drop_eq_getElem_cons hl] at h
  obtain ⟨h1, h2⟩ := List.cons.inj h
  refine ⟨hl, ?_, h2⟩
  unfold seesW
  rw [if_neg (by omega), List.getD_eq_getElem?_getD, List.getElem?_eq_getElem hl]
  exact h1
theorem sees_nil {ws : List Str} {i : Nat} (hi : i ≤ ws.length) (h : ws.drop i = []) : i = ws.length := by
  have := congrArg List.length h
  rw [List.length_drop] at this
  simp at this; omega
theorem rdCoef_cons {ws : List Str} {i : Nat} {c : Int} {r : List Str} (hc : c.natAbs ≤ 99) (h : ws.drop i = numT c :: r) : rdCoef ws i = .ok (c, i + 1) := by
  obtain ⟨_, h2, _⟩ := sees_cons h
  obtain ⟨h3, h4, _⟩ := num_fact hc
  unfold rdCoef
  rw [h2, if_pos h3, h4]
theorem rdPlaces_map {n k : Nat} (hn : n ≤ 4) {ws rest : List Str} (hr : rest = [] ∨ ∃ r, rest = ("+" : Str) :: r) : ∀ {ps : List Nat} {i f : Nat} {acc : List Nat}, (∀ p ∈ ps, p < n + k) → i ≤ ws.length → ws.drop i = ps.map (zAt (namesOf n k)) ++ rest → acc.length + ps.length ≤ 2 → ws.length - i ≤ f → rdPlaces (namesOf n k) ws f i acc = .ok (acc ++ ps, i + ps.length)
  | [], i, f, acc, _, hi, h, _, hf => by
    rw [List.append_nil]
    cases f with
    | zero => rfl
    | succ f =>
      unfold rdPlaces
      rw [if_pos]
      · rfl
      rcases hr with rfl | ⟨r, rfl⟩
      · exact .inl (sees_nil hi h)
      · exact .inr (sees_cons h).2.1
  | p :: ps, i, f, acc, hp, hi, h, ha, hf => by
    obtain ⟨h1, h2, h3⟩ := sees_cons h
    obtain ⟨hm, hx⟩ := names_idx (m := k) hn (hp p (by simp))
    obtain ⟨f, rfl⟩ : ∃ g, f = g + 1 := ⟨f - 1, by omega⟩
    simp only [List.length_cons] at ha
    unfold rdPlaces
    rw [h2, if_neg (by
      rintro (e | e)
      · omega
      · exact (names_word _ hm).2 e), if_neg (by omega), if_pos hm, hx]
    rw [rdPlaces_map hn hr (ps := ps) (fun q hq => hp q (List.mem_cons_of_mem _ hq)) h1 h3 (by rw [List.length_append]; simp; omega) (by omega)]
    simp only [List.append_assoc, List.cons_append, List.nil_append, List.length_cons]
    rw [show i + 1 + ps.length = i + (ps.length + 1) by omega]
theorem rdTerm_word {n k : Nat} (hn : n ≤ 4) {ws rest : List Str} {t : TmI} {i : Nat} (hr : rest = [] ∨ ∃ r, rest = ("+" : Str) :: r) (ht : DTm (n + k) t) (h : ws.drop i = termW (namesOf n k) t ++ rest) : rdTerm (namesOf n k) ws i = .ok (t, i + (termW (namesOf n k) t).length) := by
  obtain ⟨c, ps⟩ := t
  obtain ⟨h1, h2, h3⟩ := sees_cons (r := ps.map (zAt (namesOf n k)) ++ rest) (by rw [h]; rfl)
  unfold rdTerm
  rw [rdCoef_cons ht.1 (by rw [h]; rfl)]
  dsimp only
  rw [rdPlaces_map hn hr (ps := ps) (acc := []) ht.2.2 h1 h3 (by have := ht.2.1; simpa using this) (Nat.le_refl _)]
  simp only [List.nil_append, termW, List.length_cons, List.length_map]
  rw [show i + 1 + ps.length = i + (ps.length + 1) by omega]

/-! ### rows, outs and the whole program read again -/
def tailW (zs : List Str) : List TmI → List Str
  | [] => []
  | t :: r => ("+" : Str) :: (termW zs t ++ tailW zs r)
theorem termsW_cons (zs : List Str) : ∀ (t : TmI) (r : List TmI), termsW zs (t :: r) = termW zs t ++ tailW zs r
  | t, [] => by simp [termsW, tailW]
  | t, u :: r => by
    show termW zs t ++ ("+" : Str) :: termsW zs (u :: r) = _
    rw [termsW_cons zs u r]; rfl
theorem tailW_form (zs : List Str) (r : List TmI) : tailW zs r = [] ∨ ∃ x, tailW zs r = ("+" : Str) :: x := by
  cases r with
  | nil => exact .inl rfl
  | cons t r => exact .inr ⟨_, rfl⟩
theorem drop_past {ws a b : List Str} {i : Nat} (h : ws.drop i = a ++ b) : ws.drop (i + a.length) = b := by
  rw [← List.drop_drop, h, List.drop_left]
theorem rdMore_tail {n k : Nat} (hn : n ≤ 4) {ws : List Str} : ∀ {ts acc : List TmI} {i f : Nat}, (∀ t ∈ ts, DTm (n + k) t) → i ≤ ws.length → ws.drop i = tailW (namesOf n k) ts → acc.length + ts.length ≤ 6 → ws.length - i ≤ f → rdMore (namesOf n k) ws f i acc = .ok (acc ++ ts, ws.length)
  | [], acc, i, f, _, hi, h, _, _ => by
    have e := sees_nil hi h
    rw [List.append_nil]
    cases f with
    | zero => rw [← e]; rfl
    | succ f => unfold rdMore; rw [if_pos e, e]
  | t :: r, acc, i, f, ht, hi, h, ha, hf => by
    obtain ⟨h1, h2, h3⟩ := sees_cons h
    obtain ⟨f, rfl⟩ : ∃ g, f = g + 1 := ⟨f - 1, by omega⟩
    simp only [List.length_cons] at ha
    have hl := congrArg List.length h3
    rw [List.length_drop, List.length_append] at hl
    unfold rdMore
    rw [if_neg (by omega), if_neg (by omega), if_pos h2, rdTerm_word hn (tailW_form _ r) (ht t (by simp)) h3]
    dsimp only
    rw [rdMore_tail hn (ts := r) (fun u hu => ht u (List.mem_cons_of_mem _ hu)) (by omega) (drop_past h3) (by rw [List.length_append]; simp; omega) (by omega)]
    simp only [List.append_assoc, List.cons_append, List.nil_append]
theorem rdTerms_word {n k : Nat} (hn : n ≤ 4) {ws : List Str} {ts : List TmI} {i : Nat} (ht : ∀ t ∈ ts, DTm (n + k) t) (h6 : ts.length ≤ 6) (h : ws.drop i = if ts = [] then [("none" : Str)] else termsW (namesOf n k) ts) : ∃ j, rdTerms (namesOf n k) ws i = .ok (ts, j) := by
  cases ts with
  | nil =>
    rw [if_pos rfl] at h
    obtain ⟨h1, h2, h3⟩ := sees_cons h
    have e := sees_nil (by omega) h3
    exact ⟨i + 1, by unfold rdTerms; rw [if_pos h2, if_pos e]⟩
  | cons t r =>
    rw [if_neg (by nofun), termsW_cons] at h
    obtain ⟨c, ps⟩ := t
    obtain ⟨h1, h2, h3⟩ := sees_cons (w := numT c) (r := ps.map (zAt (namesOf n k)) ++ tailW (namesOf n k) r) (by rw [h]; rfl)
    have hc := num_fact (ht (c, ps) (by simp)).1
    have hl := congrArg List.length h
    rw [List.length_drop, List.length_append] at hl
    refine ⟨ws.length, ?_⟩
    unfold rdTerms
    rw [if_neg (by rw [h2]; exact hc.2.2.2.1), rdTerm_word hn (tailW_form _ r) (ht (c, ps) (by simp)) h]
    dsimp only
    rw [rdMore_tail hn (ts := r) (acc := [(c, ps)]) (fun u hu => ht u (List.mem_cons_of_mem _ hu)) (by omega) (drop_past h) (by simpa [Nat.add_comm] using h6) (Nat.le_refl _)]
    rfl
theorem takesW_ok {zs ws r : List Str} {i : Nat} {w : Str} (h : ws.drop i = w :: r) (hm : w ∈ zs) : takesW zs ws i = .ok (zs.idxOf w, i + 1) ∧ ws.drop (i + 1) = r := by
  obtain ⟨_, h2, h3⟩ := sees_cons h
  refine ⟨?_, h3⟩
  unfold takesW
  rw [h2, if_pos hm]
theorem rdRow_word {n k : Nat} (hn : n ≤ 4) {r : RwI} (h6 : r.2.length ≤ 6) (ht : ∀ t ∈ r.2, DTm (n + k) t) : ∃ j, rdRow (namesOf n k) (lineW (namesOf n k) k r) k = .ok (r, j) := by
  obtain ⟨b, ts⟩ := r
  obtain ⟨e1, d1⟩ := takesW_ok (zs := [rName k]) (ws := lineW (namesOf n k) k (b, ts)) (i := 0) (w := rName k) rfl (by simp)
  obtain ⟨e2, d2⟩ := takesW_ok (zs := ["="]) d1 (by simp)
  obtain ⟨e3, d3⟩ := takesW_ok (zs := ["round", "exact"]) d2 (by cases b <;> simp)
  obtain ⟨j, e4⟩ := rdTerms_word hn ht h6 d3
  refine ⟨j, ?_⟩
  unfold rdRow
  rw [e1]
  dsimp only
  rw [e2]
  dsimp only
  rw [e3]
  dsimp only
  rw [e4]
  have hb : rdWord (([("round" : Str), "exact"]).idxOf (wdV b)) = b := by cases b <;> decide +kernel
  rw [hb]
theorem rdOutMore_map {n k : Nat} (hn : n ≤ 4) {ws : List Str} : ∀ {ps : List Nat} {i f : Nat} {acc : List Nat}, (∀ p ∈ ps, p < n + k) → i ≤ ws.length → ws.drop i = ps.map (zAt (namesOf n k)) → acc.length + ps.length ≤ 4 → ws.length - i ≤ f → ∃ j, rdOutMore (namesOf n k) ws f i acc = .ok (acc ++ ps, j)
  | [], i, f, acc, _, hi, h, _, hf => by
    have e := sees_nil hi h
    rw [List.append_nil]
    cases f with
    | zero => exact ⟨i, rfl⟩
    | succ f => exact ⟨i, by unfold rdOutMore; rw [if_pos e]⟩
  | p :: ps, i, f, acc, hp, hi, h, ha, hf => by
    obtain ⟨h1, h2, h3⟩ := sees_cons h
    obtain ⟨hm, hx⟩ := names_idx (m := k) hn (hp p (by simp))
    obtain ⟨f, rfl⟩ : ∃ g, f = g + 1 := ⟨f - 1, by omega⟩
    simp only [List.length_cons] at ha
    obtain ⟨j, e⟩ := rdOutMore_map hn (ps := ps) (f := f) (acc := acc ++ [p]) (fun q hq => hp q (List.mem_cons_of_mem _ hq)) h1 h3 (by rw [List.length_append]; simp; omega) (by omega)
    refine ⟨j, ?_⟩
    unfold rdOutMore
    rw [h2, if_neg (by omega), if_neg (by omega), if_pos hm, hx, e]
    simp only [List.append_assoc, List.cons_append, List.nil_append]
theorem rdOuts_word {n k : Nat} (hn : n ≤ 4) {os : List Nat} (h0 : 0 < os.length) (h4 : os.length ≤ 4) (hp : ∀ p ∈ os, p < n + k) : ∃ j, rdOuts (namesOf n k) (("out" : Str) :: os.map (zAt (namesOf n k))) = .ok (os, j) := by
  cases os with
  | nil => simp at h0
  | cons p ps =>
    obtain ⟨e1, d1⟩ := takesW_ok (zs := ["out"]) (ws := ("out" : Str) :: (p :: ps).map (zAt (namesOf n k))) (i := 0) rfl (by simp)
    obtain ⟨hm, hx⟩ := names_idx (m := k) hn (hp p (by simp))
    obtain ⟨e2, d2⟩ := takesW_ok (zs := namesOf n k) (w := zAt (namesOf n k) p) d1 hm
    have hl := congrArg List.length d2
    rw [List.length_drop] at hl
    obtain ⟨j, e⟩ := rdOutMore_map (f := (("out" : Str) :: (p :: ps).map (zAt (namesOf n k))).length - 2) hn (ps := ps) (i := 2) (acc := [p]) (fun q hq => hp q (List.mem_cons_of_mem _ hq)) (by simp) d2 (by simp only [List.length_cons, List.length_nil] at h4 ⊢; omega) (Nat.le_refl _)
    refine ⟨j, ?_⟩
    unfold rdOuts
    rw [e1]
    dsimp only
    rw [e2]
    dsimp only
    rw [hx]
    exact e
theorem in_word : ∀ n ∈ List.range 5, numT (n : Int) ∈ numW ∧ numW.idxOf (numT (n : Int)) = n ∧ (32 : Nat) ∉ TL.tl (numT (n : Int)) ∧ (10 : Nat) ∉ TL.tl (numT (n : Int)) ∧ (numT (n : Int)).length ≤ 5 := by decide +kernel
theorem rdIn_word {n : Nat} (hn : n ≤ 4) : ∃ j, rdIn [("in" : Str), numT n] = .ok (n, j) := by
  obtain ⟨h1, h2, _⟩ := in_word n (List.mem_range.mpr (by omega))
  obtain ⟨e1, d1⟩ := takesW_ok (zs := ["in"]) (ws := [("in" : Str), numT n]) (i := 0) rfl (by simp)
  obtain ⟨e2, _⟩ := takesW_ok (zs := numW) d1 h1
  refine ⟨2, ?_⟩
  unfold rdIn
  rw [e1]
  dsimp only
  rw [e2]
  dsimp only
  rw [if_pos (by rfl), h2]
structure LinesOf (ls : List Str) (x : PrI) : Prop where
  inp : wordsAt ls 0 = [("in" : Str), numT x.1]
  rows : ∀ k r, x.2.1[k]? = some r → wordsAt ls (k + 1) = lineW (namesOf x.1 k) k r
  outs : wordsAt ls (x.2.1.length + 1) = ("out" : Str) :: x.2.2.map (zAt (namesOf x.1 x.2.1.length))
  last : wordsAt ls (x.2.1.length + 2) = []
theorem rdRows_of {ls : List Str} {x : PrI} (hx : DPr x) (hl : LinesOf ls x) : ∀ (d k : Nat), k + d = x.2.1.length → rdRows ls x.1 (12 - k) (x.2.1.take k) = .ok x.2.1
  | 0, k, h => by
    obtain rfl : k = x.2.1.length := by omega
    rw [List.take_length]
    cases e : 12 - x.2.1.length with
    | zero => rfl
    | succ f =>
      unfold rdRows
      rw [if_neg]
      rintro ⟨h1, _⟩
      rw [hl.outs] at h1
      exact rName_head (w := "out") (by decide) h1.symm
  | d + 1, k, h => by
    have hk : k < x.2.1.length := by omega
    have hm := hx.m
    have hr : x.2.1[k]? = some x.2.1[k] := List.getElem?_eq_getElem hk
    have hrow := hx.rows k _ hr
    have hlen : (x.2.1.take k).length = k := by rw [List.length_take]; omega
    obtain ⟨j, e⟩ := rdRow_word (k := k) hx.n hrow.1 hrow.2
    obtain ⟨f, hf⟩ : ∃ f, 12 - k = f + 1 := ⟨12 - k - 1, by omega⟩
    have ih := rdRows_of hx hl d (k + 1) (by omega)
    have ef : 12 - (k + 1) = f := by omega
    rw [ef, ← List.take_append_getElem hk] at ih
    rw [hf]
    unfold rdRows
    rw [hlen, hl.rows k _ hr, if_pos ⟨rfl, by omega⟩, e]
    exact ih
theorem rdLines_of {ls : List Str} {x : PrI} (hx : DPr x) (hl : LinesOf ls x) : rdLines ls = .ok x := by
  obtain ⟨n, rs, os⟩ := x
  obtain ⟨j, e1⟩ := rdIn_word hx.n
  have e2 := rdRows_of hx hl rs.length 0 (by simp)
  obtain ⟨j3, e3⟩ := rdOuts_word (k := rs.length) hx.n hx.o.1 hx.o.2 hx.outs
  have h1 := hl.inp
  have h2 := hl.outs
  have h3 := hl.last
  dsimp only at e1 e2 e3 h1 h2 h3
  unfold rdLines
  rw [h1, e1]
  dsimp only
  rw [List.take_zero] at e2
  rw [show (12 : Nat) - 0 = 12 from rfl] at e2
  rw [e2]
  dsimp only
  unfold rdRest
  rw [h2, e3]
  dsimp only
  rw [if_pos h3]

/-! ### the told text of a drawn program is read as it -/
theorem joinL_mem {S : List Nat} {c : Nat} : ∀ {ps : List (List Nat)}, c ∈ TL.joinL S ps → c ∈ S ∨ ∃ p ∈ ps, c ∈ p
  | [], h => by cases h
  | [p], h => .inr ⟨p, by simp, h⟩
  | p :: q :: r, h => by
    have h : c ∈ p ++ (S ++ TL.joinL S (q :: r)) := h
    rcases List.mem_append.mp h with h | h
    · exact .inr ⟨p, by simp, h⟩
    · rcases List.mem_append.mp h with h | h
      · exact .inl h
      · rcases joinL_mem h with h | ⟨z, hz, h⟩
        · exact .inl h
        · exact .inr ⟨z, List.mem_cons_of_mem _ hz, h⟩
theorem join_mem {y : Str} {ps : List Str} {c : Nat} (h : c ∈ TL.tl (Txt.join y ps)) : c ∈ TL.tl y ∨ ∃ p ∈ ps, c ∈ TL.tl p := by
  rw [TL.join_eq, TL.tl_join] at h
  rcases joinL_mem h with h | ⟨z, hz, h⟩
  · exact .inl h
  · obtain ⟨p, hp, rfl⟩ := List.mem_map.mp hz
    exact .inr ⟨p, hp, h⟩
/-- a line that is told by its words -/
structure LnOk (l : Str) (ws : List Str) : Prop where
  eq : l = Txt.join " " ws
  ne : ws ≠ []
  words : ∀ w ∈ ws, Word w ∧ w.length ≤ 41
theorem LnOk.split {l : Str} {ws : List Str} (h : LnOk l ws) : Txt.split l " " = ws := by
  rw [h.eq]
  exact TL.split_join (y := " ") (s := 32) (S := []) rfl (by decide +kernel) h.ne fun w hw => (h.words w hw).1.sp
theorem LnOk.nl {l : Str} {ws : List Str} (h : LnOk l ws) : (10 : Nat) ∉ TL.tl l := fun hm => by
  rw [h.eq] at hm
  rcases join_mem hm with e | ⟨p, hp, e⟩
  · have : (10 : Nat) ∈ ([32] : List Nat) := e
    simp at this
  · exact (h.words p hp).1.nl e
theorem join_two (a b : Str) : Txt.join " " [a, b] = a ++ " " ++ b := by rw [TL.join_eq]; rfl
theorem join_consS (y a b : Str) (r : List Str) : Txt.join y (a :: b :: r) = a ++ y ++ Txt.join y (b :: r) := by rw [TL.join_eq, TL.join_eq]; rfl
theorem in_line {n : Nat} (hn : n ≤ 4) : LnOk ("in " ++ numT n) ["in", numT n] := by
  obtain ⟨_, _, h1, h2, h3⟩ := in_word n (List.mem_range.mpr (by omega))
  refine ⟨?_, by simp, fun w hw => ?_⟩
  · rw [join_two]; rfl
  · simp only [List.mem_cons, List.not_mem_nil, or_false] at hw
    rcases hw with rfl | rfl
    · exact ⟨⟨by decide, by decide⟩, by decide⟩
    · exact ⟨⟨h1, h2⟩, by omega⟩
theorem name_word {n m p : Nat} (hn : n ≤ 4) (hm : m ≤ 1000) (hp : p < n + m) : Word (zAt (namesOf n m) p) ∧ (zAt (namesOf n m) p).length ≤ 41 := by
  have h := (names_idx (m := m) hn hp).1
  exact ⟨(names_word _ h).1, Nat.le_trans ((names_zok hm) _ h).1 (by decide)⟩
theorem out_eq {l : List Str} (h : l ≠ []) : ("out " : Str) ++ Txt.join " " l = Txt.join " " (("out" : Str) :: l) := by
  cases l with
  | nil => exact absurd rfl h
  | cons a r => rw [join_consS]; rfl
theorem out_line {n m : Nat} {os : List Nat} (hn : n ≤ 4) (hm : m ≤ 1000) (h0 : 0 < os.length) (hp : ∀ p ∈ os, p < n + m) : LnOk ("out " ++ Txt.join " " (os.map (zAt (namesOf n m)))) (("out" : Str) :: os.map (zAt (namesOf n m))) := by
  have hne : os.map (zAt (namesOf n m)) ≠ [] := fun e => by
    have h2 := congrArg List.length e
    rw [List.length_map] at h2
    have h3 : os.length = 0 := h2
    omega
  refine ⟨out_eq hne, by simp, fun w hw => ?_⟩
  rcases List.mem_cons.mp hw with rfl | hw
  · exact ⟨⟨by decide, by decide⟩, by decide⟩
  · obtain ⟨p, hpm, rfl⟩ := List.mem_map.mp hw
    exact name_word hn hm (hp p hpm)
theorem term_words {n m : Nat} (hn : n ≤ 4) (hm : m ≤ 1000) {t : TmI} (ht : DTm (n + m) t) : ∀ w ∈ termW (namesOf n m) t, Word w ∧ w.length ≤ 41 := by
  intro w hw
  rcases List.mem_cons.mp hw with rfl | hw
  · have := num_fact ht.1
    exact ⟨this.2.2.1, by omega⟩
  · obtain ⟨p, hpm, rfl⟩ := List.mem_map.mp hw
    exact name_word hn hm (ht.2.2 p hpm)
theorem terms_words {n m : Nat} (hn : n ≤ 4) (hm : m ≤ 1000) : ∀ {ts : List TmI}, (∀ t ∈ ts, DTm (n + m) t) → ∀ w ∈ termsW (namesOf n m) ts, Word w ∧ w.length ≤ 41
  | [], _, w, hw => by cases hw
  | [t], h, w, hw => term_words hn hm (h t (by simp)) w hw
  | t :: u :: r, h, w, hw => by
    have hw : w ∈ termW (namesOf n m) t ++ ("+" : Str) :: termsW (namesOf n m) (u :: r) := hw
    rcases List.mem_append.mp hw with hw | hw
    · exact term_words hn hm (h t (by simp)) w hw
    · rcases List.mem_cons.mp hw with rfl | hw
      · exact ⟨⟨by decide, by decide⟩, by decide⟩
      · exact terms_words hn hm (fun z hz => h z (List.mem_cons_of_mem _ hz)) w hw
theorem line_line {n m k : Nat} {r : RwI} (hn : n ≤ 4) (hm : m ≤ 1000) (hk : k < 1000) (ht : ∀ t ∈ r.2, DTm (n + m) t) : LnOk (lineText (namesOf n m) k r) (lineW (namesOf n m) k r) := by
  refine ⟨line_join _ _ _, by simp [lineW], fun w hw => ?_⟩
  unfold lineW at hw
  rcases List.mem_cons.mp hw with rfl | hw
  · exact ⟨rName_word k, Nat.le_trans (rName_len (by omega)) (by decide)⟩
  rcases List.mem_cons.mp hw with rfl | hw
  · exact ⟨⟨by decide, by decide⟩, by decide⟩
  rcases List.mem_cons.mp hw with rfl | hw
  · cases r.1 <;> exact ⟨⟨by decide, by decide⟩, by decide⟩
  split at hw
  · rw [List.mem_singleton.mp hw]
    exact ⟨⟨by decide, by decide⟩, by decide⟩
  · exact terms_words hn hm ht w hw
theorem termsW_congr {zs zs' : List Str} : ∀ {ts : List TmI}, (∀ t ∈ ts, ∀ p ∈ t.2, zAt zs p = zAt zs' p) → termsW zs ts = termsW zs' ts
  | [], _ => rfl
  | t :: r, h => by
    have e : termW zs t = termW zs' t := by
      unfold termW
      rw [List.map_congr_left fun p hp => h t (by simp) p hp]
    cases r with
    | nil => exact e
    | cons u r =>
      show termW zs t ++ ("+" : Str) :: termsW zs (u :: r) = termW zs' t ++ ("+" : Str) :: termsW zs' (u :: r)
      rw [e, termsW_congr fun z hz => h z (List.mem_cons_of_mem _ hz)]
theorem lineW_pre {n m k : Nat} {r : RwI} (hn : n ≤ 4) (hk : k ≤ m) (ht : ∀ t ∈ r.2, DTm (n + k) t) : lineW (namesOf n m) k r = lineW (namesOf n k) k r := by
  unfold lineW
  rw [termsW_congr fun t hm p hp => names_pre hn hk ((ht t hm).2.2 p hp)]
theorem DTm.mono {n m : Nat} {t : TmI} (h : DTm n t) (hm : n ≤ m) : DTm m t := ⟨h.1, h.2.1, fun q hq => Nat.lt_of_lt_of_le (h.2.2 q hq) hm⟩
theorem DPr.row {x : PrI} (h : DPr x) {k : Nat} (hk : k < x.2.1.length) : (x.2.1.getD k (false, [])).2.length ≤ 6 ∧ ∀ t ∈ (x.2.1.getD k (false, [])).2, DTm (x.1 + k) t := by
  have e : x.2.1.getD k (false, []) = x.2.1[k] := by rw [List.getD_eq_getElem?_getD, List.getElem?_eq_getElem hk]; rfl
  rw [e]
  exact h.rows k _ (List.getElem?_eq_getElem hk)
theorem DPr.pki {x : PrI} (h : DPr x) : PkI x := by
  have hl := names_len (m := x.2.1.length) h.n
  refine ⟨h.n, by have := h.m; omega, fun r hr => ?_, by have := h.o.2; omega, fun p hp => by rw [hl]; exact h.outs p hp⟩
  obtain ⟨k, hk, rfl⟩ := List.mem_iff_getElem.mp hr
  have h2 := h.rows k _ (List.getElem?_eq_getElem hk)
  refine ⟨by omega, fun t ht => ?_⟩
  have h3 := h2.2 t ht
  refine ⟨Nat.lt_of_le_of_lt h3.1 (by decide), by have := h3.2.1; omega, fun q hq => ?_⟩
  rw [hl]
  have := h3.2.2 q hq
  omega
/-- the lines of a program and their words -/
def progL (x : PrI) : List (Str × List Str) := ("in " ++ numT x.1, [("in" : Str), numT x.1]) :: ((List.range x.2.1.length).map fun k => (lineText (namesOf x.1 x.2.1.length) k (x.2.1.getD k (false, [])), lineW (namesOf x.1 k) k (x.2.1.getD k (false, [])))) ++ [("out " ++ Txt.join " " (x.2.2.map (zAt (namesOf x.1 x.2.1.length))), ("out" : Str) :: x.2.2.map (zAt (namesOf x.1 x.2.1.length)))]
theorem progL_ok {x : PrI} (h : DPr x) : ∀ l ∈ progL x, LnOk l.1 l.2 := by
  intro l hl
  have hm := h.m
  unfold progL at hl
  rcases List.mem_append.mp hl with hl | hl
  · rcases List.mem_cons.mp hl with rfl | hl
    · exact in_line h.n
    · obtain ⟨k, hk, rfl⟩ := List.mem_map.mp hl
      have hk := List.mem_range.mp hk
      have hr := h.row hk
      have e := lineW_pre (m := x.2.1.length) h.n (Nat.le_of_lt hk) hr.2
      dsimp only
      rw [← e]
      exact line_line h.n (by omega) (by omega) fun t ht => (hr.2 t ht).mono (by omega)
  · rw [List.mem_singleton.mp hl]
    exact out_line h.n (by omega) h.o.1 h.outs
theorem prog_split {x : PrI} (h : DPr x) : Txt.split (progText x) "\n" = (progL x).map (·.1) := by
  have e : progText x = Txt.join "\n" ((progL x).map (·.1)) := by
    unfold progText progL
    simp only [List.map_append, List.map_cons, List.map_nil, List.map_map, Function.comp_def]
  rw [e]
  refine TL.split_join (y := "\n") (s := 10) (S := []) rfl (by decide +kernel) (by simp [progL]) fun p hp => ?_
  obtain ⟨l, hl, rfl⟩ := List.mem_map.mp hp
  exact (progL_ok h l hl).nl
theorem words_prog {x : PrI} (h : DPr x) {i : Nat} {l : Str × List Str} (hi : (progL x)[i]? = some l) : wordsAt ((progL x).map (·.1)) i = l.2 := by
  obtain ⟨hlt, e⟩ := List.getElem?_eq_some_iff.mp hi
  unfold wordsAt
  rw [if_pos (by rw [List.length_map]; exact hlt), List.getD_eq_getElem?_getD, List.getElem?_map, hi]
  exact (progL_ok h l (by rw [← e]; exact List.getElem_mem hlt)).split
theorem progL_len (x : PrI) : (progL x).length = x.2.1.length + 2 := by simp [progL]
theorem lines_of {x : PrI} (h : DPr x) : LinesOf ((progL x).map (·.1)) x := by
  refine ⟨words_prog h (l := ("in " ++ numT x.1, [("in" : Str), numT x.1])) rfl, fun k r hr => ?_, ?_, ?_⟩
  · obtain ⟨hk, e⟩ := List.getElem?_eq_some_iff.mp hr
    have eg : x.2.1.getD k (false, []) = r := by rw [List.getD_eq_getElem?_getD, hr]; rfl
    refine (words_prog h (l := (lineText (namesOf x.1 x.2.1.length) k r, lineW (namesOf x.1 k) k r)) ?_)
    unfold progL
    rw [List.cons_append, List.getElem?_cons_succ, List.getElem?_append_left (by rw [List.length_map, List.length_range]; exact hk), List.getElem?_map, List.getElem?_range hk]
    simp only [Option.map_some, eg]
  · refine words_prog h (l := ("out " ++ Txt.join " " (x.2.2.map (zAt (namesOf x.1 x.2.1.length))), ("out" : Str) :: x.2.2.map (zAt (namesOf x.1 x.2.1.length)))) ?_
    unfold progL
    rw [List.getElem?_append_right (by simp)]
    simp
  · unfold wordsAt
    rw [if_neg (by rw [List.length_map, progL_len]; omega)]
theorem read_text {x : PrI} (h : DPr x) : readP (progText x) = .ok x := by
  unfold readP
  rw [prog_split h]
  exact rdLines_of h (lines_of h)
theorem prog_eq (x : PrI) : progText x = Txt.join "\n" ((progL x).map (·.1)) := by
  unfold progText progL
  simp only [List.map_append, List.map_cons, List.map_nil, List.map_map, Function.comp_def]
theorem progL_size {x : PrI} (h : DPr x) : ∀ y ∈ (progL x).map (·.1), y.length ≤ 13000 := by
  intro y hy
  obtain ⟨l, hl, rfl⟩ := List.mem_map.mp hy
  have hm := h.m
  have hp := h.pki
  unfold progL at hl
  rcases List.mem_append.mp hl with hl | hl
  · rcases List.mem_cons.mp hl with rfl | hl
    · have := in_word x.1 (List.mem_range.mpr (by have := h.n; omega))
      have h3 : ("in " : Str).length = 3 := by decide
      dsimp only
      rw [PySem.Str.length_append, h3]
      omega
    · obtain ⟨k, hk, rfl⟩ := List.mem_map.mp hl
      have hk := List.mem_range.mp hk
      refine lineText_len (by omega) (names_zok (by omega)) (hp.rows _ ?_)
      rw [List.getD_eq_getElem?_getD, List.getElem?_eq_getElem hk]
      exact List.getElem_mem hk
  · rw [List.mem_singleton.mp hl]
    have hz := names_zok (n := x.1) (m := x.2.1.length) (by omega)
    have hj := join_le (sep := " ") (ys := x.2.2.map (zAt (namesOf x.1 x.2.1.length))) (B := 5) (fun y hy => by
      obtain ⟨p, _, rfl⟩ := List.mem_map.mp hy
      exact zAt_len hz p)
    have h1 : (" " : Str).length = 1 := by decide
    have h4 : ("out " : Str).length = 4 := by decide
    have ho := h.o.2
    dsimp only
    rw [PySem.Str.length_append, h4]
    rw [h1, List.length_map] at hj
    omega
theorem prog_ok {x : PrI} (h : DPr x) : TxOk (progText x) := by
  have hs := progL_size h
  have hsz : sizeLine = 16777216 := sizeLine_eq
  refine ⟨?_, fun l hl => ?_⟩
  · have hj := join_le (sep := "\n") hs
    have h1 : ("\n" : Str).length = 1 := by decide
    have hm := h.m
    rw [prog_eq]
    rw [h1, List.length_map, progL_len] at hj
    omega
  · rw [prog_split h] at hl
    have h13 := hs l hl
    refine ⟨by omega, fun w hw => ?_⟩
    obtain ⟨p, hp, rfl⟩ := List.mem_map.mp hl
    have hk := progL_ok h p hp
    rw [hk.split] at hw
    have := (hk.words w hw).2
    omega

/-! ### a program beyond the limits -/
/-- a program whose text is short enough to be told with quotes -/
structure SmP (x : PrI) : Prop where
  m : x.2.1.length ≤ 30
  rows : ∀ r ∈ x.2.1, r.2.length ≤ 8 ∧ ∀ t ∈ r.2, t.2.length ≤ 3
  o : x.2.2.length ≤ 8
theorem DPr.sm {x : PrI} (h : DPr x) : SmP x := by
  refine ⟨by have := h.m; omega, fun r hr => ?_, by have := h.o.2; omega⟩
  obtain ⟨k, hk, rfl⟩ := List.mem_iff_getElem.mp hr
  have h2 := h.rows k _ (List.getElem?_eq_getElem hk)
  exact ⟨by omega, fun t ht => by have := (h2.2 t ht).2.1; omega⟩
theorem small_line {zs : List Str} {k : Nat} {r : RwI} (hk : k < 1000) (hz : ZOk zs) (hr : RkI zs r) (h8 : r.2.length ≤ 8) (h3 : ∀ t ∈ r.2, t.2.length ≤ 3) : (lineText zs k r).length ≤ 1400 := by
  have hrn := rName_len (k := k) (by omega)
  have e3 : (" = " : Str).length = 3 := by decide
  have e2 : (" " : Str).length = 1 := by decide
  have e4 : ("none" : Str).length = 4 := by decide
  have e5 : (wdV r.1).length ≤ 5 := by cases r.1 <;> decide
  have hb : ∀ y ∈ r.2.map (termText zs), y.length ≤ 168 := fun y hy => by
    obtain ⟨t, ht, rfl⟩ := List.mem_map.mp hy
    have hj := join_le (sep := " ") (term_parts hz (hr.2 t ht))
    have := h3 t ht
    rw [e2, List.length_cons, List.length_map] at hj
    unfold termText
    omega
  have hj := join_le (sep := " + ") hb
  rw [show (" + " : Str).length = 3 by decide, List.length_map] at hj
  unfold lineText
  rw [PySem.Str.length_append, PySem.Str.length_append, PySem.Str.length_append, PySem.Str.length_append]
  split
  · omega
  · omega
theorem small_len {x : PrI} (hp : PkI x) (hs : SmP x) : (progText x).length ≤ 50000 := by
  have hm := hs.m
  have hz := names_zok (n := x.1) (m := x.2.1.length) (by omega)
  have hb : ∀ y ∈ (progL x).map (·.1), y.length ≤ 1400 := by
    intro y hy
    obtain ⟨l, hl, rfl⟩ := List.mem_map.mp hy
    unfold progL at hl
    rcases List.mem_append.mp hl with hl | hl
    · rcases List.mem_cons.mp hl with rfl | hl
      · have := in_word x.1 (List.mem_range.mpr (by have := hp.n; omega))
        have h3 : ("in " : Str).length = 3 := by decide
        dsimp only
        rw [PySem.Str.length_append, h3]
        omega
      · obtain ⟨k, hk, rfl⟩ := List.mem_map.mp hl
        have hk := List.mem_range.mp hk
        have hrow : x.2.1.getD k (false, []) ∈ x.2.1 := by
          rw [List.getD_eq_getElem?_getD, List.getElem?_eq_getElem hk]
          exact List.getElem_mem hk
        exact small_line (by omega) hz (hp.rows _ hrow) (hs.rows _ hrow).1 (hs.rows _ hrow).2
    · rw [List.mem_singleton.mp hl]
      have hj := join_le (sep := " ") (ys := x.2.2.map (zAt (namesOf x.1 x.2.1.length))) (B := 5) (fun y hy => by
        obtain ⟨p, _, rfl⟩ := List.mem_map.mp hy
        exact zAt_len hz p)
      have h1 : (" " : Str).length = 1 := by decide
      have h4 : ("out " : Str).length = 4 := by decide
      have ho := hs.o
      dsimp only
      rw [PySem.Str.length_append, h4]
      rw [h1, List.length_map] at hj
      omega
  have hj := join_le (sep := "\n") hb
  have h1 : ("\n" : Str).length = 1 := by decide
  rw [prog_eq]
  rw [h1, List.length_map, progL_len] at hj
  omega
theorem progText_ok {x : PrI} (hp : PkI x) : OkS (progText x) := by
  have hz := names_zok (n := x.1) (m := x.2.1.length) (by have := hp.m; omega)
  rw [prog_eq]
  refine OkS.join (OkS.lit "\n") fun y hy => ?_
  obtain ⟨l, hl, rfl⟩ := List.mem_map.mp hy
  unfold progL at hl
  rcases List.mem_append.mp hl with hl | hl
  · rcases List.mem_cons.mp hl with rfl | hl
    · exact OkS.add (OkS.lit "in ") (OkS.lit _)
    · obtain ⟨k, hk, rfl⟩ := List.mem_map.mp hl
      unfold lineText
      refine OkS.add (OkS.add (OkS.add (OkS.add (OkS.of (rName_ok k _ (by simp))) (OkS.lit _)) ?_) (OkS.lit _)) ?_
      · unfold wdV; split <;> exact OkS.lit _
      · split
        · exact OkS.lit _
        · refine OkS.join (OkS.lit _) fun y hy => ?_
          obtain ⟨t, _, rfl⟩ := List.mem_map.mp hy
          exact termText_ok hz
  · rw [List.mem_singleton.mp hl]
    refine OkS.add (OkS.lit _) (OkS.join (OkS.lit _) fun y hy => ?_)
    obtain ⟨p, _, rfl⟩ := List.mem_map.mp hy
    exact zAt_ok hz p
theorem rpr_texts {a : Str} (ha : OkS a) (hl : a.length ≤ 50000) : Rpr 64 100010 (.lst [.str a, .str a]) := by
  refine ⟨?_, ?_, ?_⟩
  · rw [gd_lst]
    simp only [gds, gd]
    exact ⟨ha.ok, ha.ok, trivial⟩
  · simp [sm, sms]
  · have : a.cps.size ≤ 50000 := hl
    simp only [D.bulk, bulks]
    omega
theorem bulks_max {α : Type} {B : Nat} {c : α → D} : ∀ {xs : List α}, (∀ a ∈ xs, (c a).bulk ≤ B) → bulks (xs.map c) ≤ (B + 1) * xs.length
  | [], _ => by simp [bulks]
  | x :: xs, h => by
    have h1 := h x (by simp)
    have h2 := bulks_max (xs := xs) fun z hz => h z (List.mem_cons_of_mem _ hz)
    simp only [List.map_cons, bulks, List.length_cons, Nat.mul_add, Nat.mul_one]
    omega
theorem sm_nats (l : List Nat) (h : ∀ a ∈ l, a < 1000) : sms 64 (l.map dN) := sms_map fun a ha => by
  have := h a ha
  simp only [sm, Int.natAbs_natCast]
  omega
theorem gd_tvB (n : Nat) (t : TmI) : gd (n + 3) (tV t) := by
  simp only [gd_tup, gds]
  refine ⟨by simp [gd], ?_, trivial⟩
  exact gds_map fun _ _ => by simp [gd]
theorem rpr_prog {x : PrI} (h : DPr x) : Rpr 64 3000 (prV x) := by
  have hm := h.m
  have hn := h.n
  have hrow : ∀ r ∈ x.2.1, r.2.length ≤ 6 ∧ ∀ t ∈ r.2, DTm 100 t := fun r hr => by
    obtain ⟨k, hk, rfl⟩ := List.mem_iff_getElem.mp hr
    have h2 := h.rows k _ (List.getElem?_eq_getElem hk)
    exact ⟨h2.1, fun t ht => (h2.2 t ht).mono (by omega)⟩
  refine ⟨?_, ?_, ?_⟩
  · rw [gd_tup]
    simp only [gds, gd_tup]
    refine ⟨by simp [gd], gds_map fun r _ => ?_, gds_map fun _ _ => by simp [gd], trivial⟩
    rw [gd_tup]
    simp only [gds, gd_tup]
    refine ⟨?_, gds_map fun t _ => gd_tvB 53 t, trivial⟩
    simp only [gd]
    cases r.1 <;> decide +kernel
  · simp only [sm, sms]
    refine ⟨by rw [Int.natAbs_natCast]; omega, sms_map fun r hr => ?_, sm_nats _ fun a ha => by have := h.outs a ha; omega, trivial⟩
    simp only [sm, sms]
    refine ⟨trivial, sms_map fun t ht => ?_, trivial⟩
    have h3 := (hrow r hr).2 t ht
    simp only [sm, sms]
    refine ⟨Nat.lt_of_le_of_lt h3.1 (by decide), sm_nats _ fun a ha => by have := h3.2.2 a ha; omega, trivial⟩
  · have hb : ∀ r ∈ x.2.1, (rIV r).bulk ≤ 150 := fun r hr => by
      have h6 := (hrow r hr).1
      have h2 := bulks_max (c := tV) (xs := r.2) (B := 15) fun t ht => by
        have h3 := ((hrow r hr).2 t ht).2.1
        have h4 := bulks_max (c := dN) (xs := t.2) (B := 1) fun _ _ => by simp [D.bulk]
        simp only [D.bulk, bulks]
        omega
      have h5 : (D.str (wdV r.1)).bulk ≤ 8 := by cases r.1 <;> decide
      simp only [D.bulk, bulks] at h5 ⊢
      omega
    have h1 := bulks_max hb
    have h4 := bulks_max (c := dN) (xs := x.2.2) (B := 1) fun _ _ => by simp [D.bulk]
    have ho := h.o.2
    simp only [D.bulk, bulks]
    omega
theorem rpr_progs {x : PrI} (h : DPr x) : Rpr 64 7000 (.lst [prV x, prV x]) := by
  have h1 := rpr_prog h
  refine ⟨?_, ?_, ?_⟩
  · have := h1.g
    rw [gd_tup] at this
    rw [gd_lst]
    simp only [gds]
    have h2 : gd 59 (prV x) := by
      rw [gd_tup]
      simp only [gds, gd_tup]
      refine ⟨by simp [gd], gds_map fun r _ => ?_, gds_map fun _ _ => by simp [gd], trivial⟩
      rw [gd_tup]
      simp only [gds, gd_tup]
      refine ⟨?_, gds_map fun t _ => gd_tvB 52 t, trivial⟩
      simp only [gd]
      cases r.1 <;> decide +kernel
    exact ⟨h2, h2, trivial⟩
  · simp only [sms, sm]
    have := h1.s
    simp only [sm] at this
    exact ⟨this, this, trivial⟩
  · have := h1.z
    show bulks [prV x, prV x] + 1 ≤ 7000
    simp only [bulks]
    omega

/-! ### the first wrong word of a line -/
/-- the first word of the outs that is at fault -/
def outFault (zs ws : List Str) : Option Nat :=
  if ws.take 1 ≠ [("out" : Str)] then some 1 else if ws.length = 1 then some 2 else
    match ((List.range (ws.length - 1)).map fun i => 1 + i).filter fun k => decide (4 < k) || !decide (ws.getD k "" ∈ zs) with
    | [] => none
    | k :: _ => some (k + 1)
abbrev oN (o : Option Nat) : D := match o with
  | none => .non
  | some k => dN k
/-- the first word of a row that is at fault: the words from k on, whether a term begins, how many terms and places -/
def rowFaultGo (zs : List Str) : List Str → Nat → Bool → Nat → Nat → Option Nat
  | [], k, b, _, _ => if b = true then some (k + 1) else none
  | w :: ws, k, b, t, q =>
    if b = true ∧ w ∈ nums99 then rowFaultGo zs ws (k + 1) false (t + 1) 0
    else if b = false ∧ w = "+" ∧ t < 6 then rowFaultGo zs ws (k + 1) true t q
    else if b = false ∧ w ∈ zs ∧ q < 2 then rowFaultGo zs ws (k + 1) b t (q + 1)
    else some (k + 1)
def rowFault (zs ws : List Str) : Option Nat :=
  if (ws.take 2).drop 1 ≠ [("=" : Str)] then some 2
  else if ws.length < 3 ∨ ws.getD 2 "" ∉ [("round" : Str), "exact"] then some 3
  else if (ws.take 4).drop 3 = [("none" : Str)] then (if ws.length = 4 then none else some 5)
  else rowFaultGo zs (ws.drop 3) 3 true 0 0

/-! ### a text split at one sign -/
theorem spl_one {s : Nat} (acc : List Nat) (c : Nat) (r : List Nat) : TL.spl [s] 0 acc (c :: r) = if c = s then acc :: TL.spl [s] 0 [] r else TL.spl [s] 0 (acc ++ [c]) r := by
  show (if TL.pre [s] (c :: r) = true then acc :: TL.spl [s] ([s].length - 1) [] r else TL.spl [s] 0 (acc ++ [c]) r) = _
  have e : TL.pre [s] (c :: r) = true ↔ c = s := by
    simp [TL.pre]
    try exact eq_comm
  by_cases h : c = s
  · rw [if_pos (e.mpr h), if_pos h]; rfl
  · rw [if_neg (fun k => h (e.mp k)), if_neg h]
theorem spl_join1 {s : Nat} : ∀ (l acc : List Nat), TL.spl [s] 0 acc l ≠ [] ∧ TL.joinL [s] (TL.spl [s] 0 acc l) = acc ++ l
  | [], acc => ⟨by simp [TL.spl], by simp [TL.spl, TL.joinL]⟩
  | c :: r, acc => by
    rw [spl_one]
    by_cases h : c = s
    · rw [if_pos h]
      obtain ⟨h1, h2⟩ := spl_join1 r []
      refine ⟨by simp, ?_⟩
      obtain ⟨a, b, e⟩ := List.exists_cons_of_ne_nil h1
      rw [e] at h2 ⊢
      show acc ++ ([s] ++ TL.joinL [s] (a :: b)) = _
      rw [h2, h]
      simp
    · rw [if_neg h]
      obtain ⟨h1, h2⟩ := spl_join1 r (acc ++ [c])
      exact ⟨h1, by rw [h2]; simp⟩
theorem spl_free {s : Nat} : ∀ (l acc : List Nat), s ∉ acc → ∀ p ∈ TL.spl [s] 0 acc l, s ∉ p ∧ p.length ≤ acc.length + l.length ∧ ∀ c ∈ p, c ∈ acc ∨ c ∈ l
  | [], acc, ha, p, hp => by
    have hp : p ∈ [acc] := hp
    rw [List.mem_singleton.mp hp]
    exact ⟨ha, Nat.le_refl _, fun c hc => .inl hc⟩
  | c :: r, acc, ha, p, hp => by
    rw [spl_one] at hp
    by_cases h : c = s
    · rw [if_pos h] at hp
      rcases List.mem_cons.mp hp with rfl | hp
      · exact ⟨ha, by simp, fun c hc => .inl hc⟩
      · have := spl_free r [] (by simp) p hp
        exact ⟨this.1, by have := this.2.1; simp at this ⊢; omega, fun c hc => .inr (List.mem_cons_of_mem _ ((this.2.2 c hc).resolve_left (by simp)))⟩
    · rw [if_neg h] at hp
      have := spl_free r (acc ++ [c]) (by simp [ha]; exact fun e => h e.symm) p hp
      refine ⟨this.1, by have := this.2.1; simp at this ⊢; omega, fun d hd => ?_⟩
      rcases this.2.2 d hd with h2 | h2
      · rcases List.mem_append.mp h2 with h2 | h2
        · exact .inl h2
        · exact .inr (by rw [List.mem_singleton.mp h2]; simp)
      · exact .inr (List.mem_cons_of_mem _ h2)
structure SplitOk (z y : Str) (s : Nat) (ps : List Str) : Prop where
  ne : ps ≠ []
  join : Txt.join y ps = z
  free : ∀ p ∈ ps, s ∉ TL.tl p
  len : ∀ p ∈ ps, p.length ≤ z.length
  sub : ∀ p ∈ ps, ∀ c ∈ TL.tl p, c ∈ TL.tl z
theorem split_ok {z y : Str} {s : Nat} (ey : TL.tl y = [s]) (hk : y.cps.all (· < 256) = true) : SplitOk z y s (Txt.split z y) := by
  have e : (Txt.split z y).map TL.tl = TL.spl [s] 0 [] (TL.tl z) := by
    rw [TL.split_spl z y (by rw [ey]; simp) (TL.kind_ok hk), ey]
  obtain ⟨h1, h2⟩ := spl_join1 (s := s) (TL.tl z) []
  have hf : ∀ p ∈ Txt.split z y, s ∉ TL.tl p ∧ (TL.tl p).length ≤ ([] : List Nat).length + (TL.tl z).length ∧ ∀ c ∈ TL.tl p, c ∈ ([] : List Nat) ∨ c ∈ TL.tl z := fun p hp =>
    spl_free (s := s) (TL.tl z) [] (by simp) (TL.tl p) (by rw [← e]; exact List.mem_map.mpr ⟨p, hp, rfl⟩)
  refine ⟨fun h => ?_, TL.ext_tl ?_, fun p hp => (hf p hp).1, fun p hp => ?_, fun p hp c hc => ((hf p hp).2.2 c hc).resolve_left (by simp)⟩
  · rw [h] at e
    exact h1 e.symm
  · rw [TL.join_eq, TL.tl_join, ey, e, h2, List.nil_append]
  · have := (hf p hp).2.1
    rw [TL.len_tl, TL.len_tl]
    simpa using this

/-! ### what reading tells -/
def N_law_told : List Str := ["_law_text", "error", "_law_found"]
def t_law_told : TSD := (dSeq (dTryM [⟨[("BadText", true)], some 1, fun n a d => (dRet (dTup (dCons (dC (.str "bad")) (dCons (dTup (dCons (dExcF a d n ["BadText"] "line" (dVar 1)) (dCons (dExcF a d n ["BadText"] "word" (dVar 1)) dNil))) dNil))))⟩, ⟨[("BadText", true)], none, fun n a d => (dRet (dTup (dCons (dC (.str "other")) (dCons (dC .non) dNil))))⟩] (dAsg (dCall sp_read_program (dCons (dVar 0) dNil)) (gdName 2)))
  (dRet (dTup (dCons (dC (.str "fine")) (dCons (dVar 2) dNil)))))
abbrev toldV (r : Except (Nat × Nat) PrI) : D := match r with
  | .ok x => .tup [.str "fine", prV x]
  | .error (l, w) => .tup [.str "bad", .tup [dN l, dN w]]
def sp_law_told : SpD := fun ds G Q _ => ∃ (z : Str), ds = [.str z] ∧ TxOk z ∧ ∀ G', Kp G G' → Q (toldV (readP z)) G'
theorem len_law_told : LN sp_law_told 1 := by rintro ds G Q E ⟨z, rfl, _⟩; rfl
theorem vc_law_told : VC sp_law_told N_law_told t_law_told := by
  rintro ds G Q EX ⟨z, rfl, hz, hq⟩
  walk_at "go law_told"
  refine ⟨z, rfl, hz, fun x hx G2 hk2 => ?_, fun l w hx G2 hk2 => ?_⟩
  · walk_at "d"
    rw [hx] at hq
    exact hq G2 hk2
  · rw [hx] at hq
    refine ⟨"BadText", rfl, true, List.mem_cons_self, fun _ a d hd => ?_, fun z => by cases z⟩
    cases d with
    | none => exact absurd (hd rfl) (by nofun)
    | some dd =>
      walk_at "d"
      refine st_excFq List.mem_cons_self rfl ?_
      walk_at "d"
      refine st_excFq List.mem_cons_self rfl ?_
      walk_at "d"
      exact hq G2 hk2

/-! ### the law's own look finds what reading finds -/
theorem num_of : ∀ w ∈ nums99, numT (valOf w) = w ∧ (valOf w).natAbs ≤ 99 := by decide +kernel
theorem zAt_idx {zs : List Str} {w : Str} (h : w ∈ zs) : zAt zs (zs.idxOf w) = w ∧ zs.idxOf w < zs.length := by
  have hlt := List.idxOf_lt_length_iff.mpr h
  refine ⟨?_, hlt⟩
  unfold zAt
  rw [List.getD_eq_getElem?_getD, List.getElem?_eq_getElem hlt]
  exact List.getElem_idxOf hlt
/-- the same fault, or none and a result -/
def Ag {ε α : Type} (o : Option ε) (r : Except ε α) (P : α → Prop) : Prop := match o with
  | some w => r = .error w
  | none => ∃ x, r = .ok x ∧ P x
theorem sees_at {ws : List Str} {i : Nat} (h : i < ws.length) : seesW ws i = ws.getD i "" := by
  unfold seesW
  rw [if_neg (by omega)]
theorem sees_end (ws : List Str) : seesW ws ws.length = " " := by
  unfold seesW
  rw [if_pos rfl]
theorem tailW_app (zs : List Str) : ∀ a b : List TmI, tailW zs (a ++ b) = tailW zs a ++ tailW zs b
  | [], b => rfl
  | t :: r, b => by
    show ("+" : Str) :: (termW zs t ++ tailW zs (r ++ b)) = ("+" : Str) :: (termW zs t ++ tailW zs r) ++ tailW zs b
    rw [tailW_app zs r b]
    simp only [List.append_assoc, List.cons_append]
theorem tailW_snoc (zs : List Str) (a : List TmI) (t : TmI) : tailW zs (a ++ [t]) = tailW zs a ++ ("+" : Str) :: termW zs t := by
  rw [tailW_app]
  show _ ++ ("+" : Str) :: (termW zs t ++ []) = _
  rw [List.append_nil]
def RdG (zs W : List Str) (x : List TmI × Nat) : Prop := tailW zs x.1 = W ∧ x.1.length ≤ 6 ∧ ∀ t ∈ x.1, DTm zs.length t
/-- a term from its number on, then more terms -/
def rdA (zs ws : List Str) (g : Nat → Nat) (i : Nat) (acc : List TmI) : Except Nat (List TmI × Nat) := match rdTerm zs ws i with
  | .error w => .error w
  | .ok (t, j) => rdMore zs ws (g j) j (acc ++ [t])
/-- the places of a term, then more terms -/
def rdB (zs ws : List Str) (g : Nat → Nat) (f i : Nat) (acc : List TmI) (c : Int) (ps : List Nat) : Except Nat (List TmI × Nat) := match rdPlaces zs ws f i ps with
  | .error w => .error w
  | .ok (ps, j) => rdMore zs ws (g j) j (acc ++ [(c, ps)])
theorem rdA_B {zs ws : List Str} {g : Nat → Nat} {i : Nat} {acc : List TmI} (h : seesW ws i ∈ nums99) : rdA zs ws g i acc = rdB zs ws g (ws.length - (i + 1)) (i + 1) acc (valOf (seesW ws i)) [] := by
  unfold rdA rdB rdTerm rdCoef
  rw [if_pos h]
  dsimp only
  cases rdPlaces zs ws (ws.length - (i + 1)) (i + 1) [] <;> rfl
theorem rdA_no {zs ws : List Str} {g : Nat → Nat} {i : Nat} {acc : List TmI} (h : seesW ws i ∉ nums99) : rdA zs ws g i acc = .error (i + 1) := by
  unfold rdA rdTerm rdCoef
  rw [if_neg h]
theorem go_all {zs ws : List Str} (hz : ("+" : Str) ∉ zs) : ∀ (l : List Str) (i : Nat), i ≤ ws.length → ws.drop i = l →
    (∀ (q : Nat) (acc : List TmI) (g : Nat → Nat), acc.length < 6 → (∀ t ∈ acc, DTm zs.length t) → (∀ j, i ≤ j → ws.length - j ≤ g j) → Ag (rowFaultGo zs l i true acc.length q) (rdA zs ws g i acc) (RdG zs (tailW zs acc ++ ("+" : Str) :: l)))
    ∧ ∀ (acc : List TmI) (c : Int) (ps : List Nat) (f : Nat) (g : Nat → Nat), acc.length < 6 → (∀ t ∈ acc, DTm zs.length t) → c.natAbs ≤ 99 → ps.length ≤ 2 → (∀ p ∈ ps, p < zs.length) → ws.length - i ≤ f → (∀ j, i ≤ j → ws.length - j ≤ g j) → Ag (rowFaultGo zs l i false (acc.length + 1) ps.length) (rdB zs ws g f i acc c ps) (RdG zs (tailW zs acc ++ ("+" : Str) :: (termW zs (c, ps) ++ l)))
  | [], i, hi, hd => by
    have he := sees_nil hi hd
    refine ⟨fun q acc g ha hacc hg => ?_, fun acc c ps f g ha hacc hc hp hps hf hg => ?_⟩
    · show rdA zs ws g i acc = .error (i + 1)
      refine rdA_no ?_
      rw [he, sees_end]
      exact sp_no
    · have e1 : rdPlaces zs ws f i ps = .ok (ps, i) := by
        cases f with
        | zero => rfl
        | succ f => unfold rdPlaces; rw [if_pos (.inl he)]
      have e2 : rdMore zs ws (g i) i (acc ++ [(c, ps)]) = .ok (acc ++ [(c, ps)], i) := by
        cases g i with
        | zero => rfl
        | succ f => unfold rdMore; rw [if_pos he]
      refine ⟨(acc ++ [(c, ps)], i), ?_, ?_, ?_, fun t ht => ?_⟩
      · unfold rdB
        rw [e1]
        exact e2
      · show tailW zs (acc ++ [(c, ps)]) = _
        rw [tailW_snoc, List.append_nil]
      · show (acc ++ [(c, ps)]).length ≤ 6
        rw [List.length_append]
        simp only [List.length_singleton]; omega
      · rcases List.mem_append.mp ht with ht | ht
        · exact hacc t ht
        · rw [List.mem_singleton.mp ht]
          exact ⟨hc, hp, hps⟩
  | w :: r, i, hi, hd => by
    obtain ⟨hlt, hs, hr⟩ := sees_cons hd
    obtain ⟨ihA, ihB⟩ := go_all hz r (i + 1) hlt hr
    refine ⟨fun q acc g ha hacc hg => ?_, fun acc c ps f g ha hacc hc hp hps hf hg => ?_⟩
    · have hgo : rowFaultGo zs (w :: r) i true acc.length q = if w ∈ nums99 then rowFaultGo zs r (i + 1) false (acc.length + 1) 0 else some (i + 1) := by
        conv => lhs; unfold rowFaultGo
        simp only [Bool.true_eq_false, false_and, if_false, true_and]
      rw [hgo]
      by_cases h : w ∈ nums99
      · rw [if_pos h, rdA_B (by rw [hs]; exact h), hs]
        have := ihB acc (valOf w) [] (ws.length - (i + 1)) g ha hacc (num_of w h).2 (by simp) (by simp) (Nat.le_refl _) (fun j hj => hg j (by omega))
        have e : termW zs (valOf w, []) ++ r = w :: r := by
          show numT (valOf w) :: r = _
          rw [(num_of w h).1]
        rw [e] at this
        exact this
      · rw [if_neg h]
        exact rdA_no (by rw [hs]; exact h)
    · have hgo : rowFaultGo zs (w :: r) i false (acc.length + 1) ps.length = if w = "+" ∧ acc.length + 1 < 6 then rowFaultGo zs r (i + 1) true (acc.length + 1) ps.length else if w ∈ zs ∧ ps.length < 2 then rowFaultGo zs r (i + 1) false (acc.length + 1) (ps.length + 1) else some (i + 1) := by
        conv => lhs; unfold rowFaultGo
        simp only [Bool.false_eq_true, false_and, if_false, true_and]
      rw [hgo]
      obtain ⟨f, rfl⟩ : ∃ k, f = k + 1 := ⟨f - 1, by omega⟩
      by_cases hw : w = "+"
      · have e1 : rdB zs ws g (f + 1) i acc c ps = rdMore zs ws (g i) i (acc ++ [(c, ps)]) := by
          unfold rdB rdPlaces
          rw [if_pos (.inr (by rw [hs]; exact hw))]
        obtain ⟨k, hk⟩ : ∃ k, g i = k + 1 := ⟨g i - 1, by have := hg i (Nat.le_refl _); omega⟩
        have hal : (acc ++ [(c, ps)]).length = acc.length + 1 := by rw [List.length_append]; rfl
        have e2 : rdMore zs ws (k + 1) i (acc ++ [(c, ps)]) = if acc.length + 1 = 6 then .error (i + 1) else rdA zs ws (fun _ => k) (i + 1) (acc ++ [(c, ps)]) := by
          conv => lhs; unfold rdMore
          rw [if_neg (by omega), hal, if_pos (show seesW ws i = "+" by rw [hs]; exact hw)]
          rfl
        rw [e1, hk, e2]
        by_cases h6 : acc.length + 1 < 6
        · rw [if_pos ⟨hw, h6⟩, if_neg (by omega)]
          have := ihA ps.length (acc ++ [(c, ps)]) (fun _ => k) (by omega) (fun t ht => by
            rcases List.mem_append.mp ht with ht | ht
            · exact hacc t ht
            · rw [List.mem_singleton.mp ht]
              exact ⟨hc, hp, hps⟩) (fun j hj => by have := hg i (Nat.le_refl _); omega)
          rw [hal, tailW_snoc] at this
          rw [hw]
          simpa only [List.append_assoc, List.cons_append] using this
        · rw [if_neg (fun h => h6 h.2), if_neg (fun h => hz (by rw [← hw]; exact h.1)), if_pos (by omega)]
          rfl
      · rw [if_neg (fun h => hw h.1)]
        have e1 : rdB zs ws g (f + 1) i acc c ps = if ps.length = 2 then .error (i + 1) else if w ∈ zs then rdB zs ws g f (i + 1) acc c (ps ++ [zs.idxOf w]) else .error (i + 1) := by
          conv => lhs; unfold rdB rdPlaces
          rw [hs, if_neg (by
            rintro (h | h)
            · omega
            · exact hw h)]
          by_cases h2 : ps.length = 2
          · rw [if_pos h2, if_pos h2]
          · rw [if_neg h2, if_neg h2]
            by_cases h3 : w ∈ zs
            · rw [if_pos h3, if_pos h3]; rfl
            · rw [if_neg h3, if_neg h3]
        rw [e1]
        by_cases h2 : ps.length = 2
        · rw [if_pos h2, if_neg (fun h => by omega)]
          rfl
        rw [if_neg h2]
        by_cases h3 : w ∈ zs
        · rw [if_pos h3, if_pos ⟨h3, by omega⟩]
          have hix := zAt_idx h3
          have hpl : (ps ++ [zs.idxOf w]).length = ps.length + 1 := by rw [List.length_append]; rfl
          have := ihB acc c (ps ++ [zs.idxOf w]) f g ha hacc hc (by omega) (fun p hpm => by
            rcases List.mem_append.mp hpm with hpm | hpm
            · exact hps p hpm
            · rw [List.mem_singleton.mp hpm]; exact hix.2) (by omega) (fun j hj => hg j (by omega))
          have e : termW zs (c, ps ++ [zs.idxOf w]) ++ r = termW zs (c, ps) ++ w :: r := by
            show (numT c :: (ps ++ [zs.idxOf w]).map (zAt zs)) ++ r = (numT c :: ps.map (zAt zs)) ++ w :: r
            rw [List.map_append, List.map_cons, List.map_nil, hix.1]
            simp only [List.append_assoc, List.cons_append, List.nil_append]
          rw [hpl, e] at this
          exact this
        · rw [if_neg h3, if_neg (fun h => h3 h.1)]
          rfl
theorem takes_no {zs ws : List Str} {i : Nat} (h : seesW ws i ∉ zs) : takesW zs ws i = .error (i + 1) := if_neg h
theorem takes_yes {zs ws : List Str} {i : Nat} (h : seesW ws i ∈ zs) : takesW zs ws i = .ok (zs.idxOf (seesW ws i), i + 1) := if_pos h
theorem row_all {zs ws : List Str} {k : Nat} (hz : ("+" : Str) ∉ zs) (h0 : 0 < ws.length) (hr : ws.getD 0 "" = rName k) : Ag (rowFault zs ws) (rdRow zs ws k) (fun x => lineW zs k x.1 = ws ∧ x.1.2.length ≤ 6 ∧ ∀ t ∈ x.1.2, DTm zs.length t) := by
  have e0 : takesW [rName k] ws 0 = .ok (([rName k] : List Str).idxOf (seesW ws 0), 1) := takes_yes (by rw [sees_at h0, hr]; simp)
  unfold rdRow
  rw [e0]
  dsimp only
  match ws, h0, hr with
  | [a], _, hr =>
    have e1 : takesW ["="] [a] 1 = .error 2 := takes_no (by rw [show seesW [a] 1 = " " from sees_end [a]]; decide)
    rw [e1]
    rfl
  | a :: b :: ws, _, hr =>
    have s1 : seesW (a :: b :: ws) 1 = b := sees_at (by simp)
    unfold rowFault
    rw [show ((a :: b :: ws).take 2).drop 1 = [b] from rfl]
    by_cases hb : b = "="
    rotate_left
    · rw [if_pos (fun h => hb (List.cons.inj h).1), takes_no (by rw [s1]; simpa using hb)]
      rfl
    subst hb
    rw [if_neg (by simp), takes_yes (zs := ["="]) (by rw [s1]; simp)]
    dsimp only
    match ws, hr with
    | [], _ =>
      rw [if_pos (.inl (by simp)), takes_no (zs := ["round", "exact"]) (by rw [show seesW [a, ("=" : Str)] (1 + 1) = " " from sees_end [a, "="]]; decide)]
      rfl
    | c :: ws, hr =>
      have s2 : seesW (a :: ("=" : Str) :: c :: ws) 2 = c := sees_at (by simp)
      by_cases hc : c ∈ [("round" : Str), "exact"]
      rotate_left
      · rw [if_pos (.inr hc), takes_no (zs := ["round", "exact"]) (by rw [show (1 + 1 : Nat) = 2 from rfl, s2]; exact hc)]
        rfl
      rw [if_neg (by
        rintro (h | h)
        · simp only [List.length_cons] at h; omega
        · exact h hc), takes_yes (zs := ["round", "exact"]) (by rw [show (1 + 1 : Nat) = 2 from rfl, s2]; exact hc)]
      dsimp only
      rw [show (1 + 1 : Nat) = 2 from rfl, s2]
      have hwd : wdV (rdWord ([("round" : Str), "exact"].idxOf c)) = c := by
        simp only [List.mem_cons, List.not_mem_nil, or_false] at hc
        rcases hc with rfl | rfl <;> decide +kernel
      generalize rdWord ([("round" : Str), "exact"].idxOf c) = wb at *
      rw [show ((a :: ("=" : Str) :: c :: ws).take 4).drop 3 = ws.take 1 from by cases ws <;> rfl]
      have hline : ∀ ts : List TmI, (if ts = [] then [("none" : Str)] else termsW zs ts) = ws → lineW zs k (wb, ts) = a :: ("=" : Str) :: c :: ws := fun ts h => by
        unfold lineW
        dsimp only
        rw [h, hwd]
        rw [show a = rName k from hr]
      by_cases hn : ws.take 1 = [("none" : Str)]
      · obtain ⟨d, r, rfl⟩ : ∃ d r, ws = d :: r := by
          cases ws with
          | nil => cases hn
          | cons d r => exact ⟨d, r, rfl⟩
        obtain rfl : d = "none" := (List.cons.inj hn).1
        rw [if_pos hn]
        have s3 : seesW (a :: ("=" : Str) :: c :: ("none" : Str) :: r) 3 = "none" := sees_at (by simp)
        unfold rdTerms
        rw [show (2 + 1 : Nat) = 3 from rfl, s3, if_pos rfl]
        by_cases hl : r = []
        · subst hl
          refine ⟨((wb, []), 4), rfl, ?_, by simp, by simp⟩
          exact hline [] rfl
        · have hl2 : 0 < r.length := List.length_pos_iff.mpr hl
          have e4 : ¬ (a :: ("=" : Str) :: c :: ("none" : Str) :: r).length = 4 := by simp only [List.length_cons]; omega
          have e5 : ¬ 3 + 1 = (a :: ("=" : Str) :: c :: ("none" : Str) :: r).length := by simp only [List.length_cons]; omega
          rw [if_neg e4, if_neg e5]
          rfl
      · rw [if_neg hn]
        have hgo := (go_all (zs := zs) (ws := a :: ("=" : Str) :: c :: ws) hz ws 3 (by simp) rfl).1 0 [] (fun j => (a :: ("=" : Str) :: c :: ws).length - j) (by simp) (by simp) (fun j _ => Nat.le_refl _)
        have s3 : seesW (a :: ("=" : Str) :: c :: ws) 3 ≠ "none" := by
          cases ws with
          | nil => rw [show seesW [a, ("=" : Str), c] 3 = " " from sees_end [a, "=", c]]; decide
          | cons d r =>
            rw [show seesW (a :: ("=" : Str) :: c :: d :: r) 3 = d from sees_at (by simp)]
            intro e
            exact hn (by rw [e]; rfl)
        have er : rdTerms zs (a :: ("=" : Str) :: c :: ws) (2 + 1) = rdA zs (a :: ("=" : Str) :: c :: ws) (fun j => (a :: ("=" : Str) :: c :: ws).length - j) 3 [] := by
          unfold rdTerms rdA
          rw [show (2 + 1 : Nat) = 3 from rfl, if_neg s3]
          rfl
        rw [er]
        show Ag (rowFaultGo zs ws 3 true 0 0) _ _
        generalize rdA zs (a :: ("=" : Str) :: c :: ws) (fun j => (a :: ("=" : Str) :: c :: ws).length - j) 3 [] = R at *
        rw [show ([] : List TmI).length = 0 from rfl] at hgo
        cases ho : rowFaultGo zs ws 3 true 0 0 with
        | some w =>
          rw [ho] at hgo
          have hgo : R = .error w := hgo
          rw [hgo]
          rfl
        | none =>
          rw [ho] at hgo
          obtain ⟨⟨ts, j⟩, e1, e2, e3, e4⟩ := hgo
          rw [e1]
          refine ⟨((wb, ts), j), rfl, hline ts ?_, e3, e4⟩
          have e2 : tailW zs ts = ("+" : Str) :: ws := e2
          cases ts with
          | nil => cases e2
          | cons t r =>
            rw [if_neg (by nofun), termsW_cons]
            exact (List.cons.inj e2).2

/-! ### the outs, the rows, the whole text -/
theorem outMore_all {zs ws : List Str} : ∀ (d i f : Nat) (acc : List Nat), i + d = ws.length → acc.length + 1 = i → acc.length ≤ 4 → d ≤ f → (∀ p ∈ acc, p < zs.length) →
    Ag (match (List.range' i d).filter fun k => decide (4 < k) || !decide (ws.getD k "" ∈ zs) with | [] => none | k :: _ => some (k + 1)) (rdOutMore zs ws f i acc) (fun x => x.1.map (zAt zs) = acc.map (zAt zs) ++ ws.drop i ∧ acc.length + d = x.1.length ∧ x.1.length ≤ 4 ∧ ∀ p ∈ x.1, p < zs.length)
  | 0, i, f, acc, hi, ha, h4, hf, hp => by
    have e1 : rdOutMore zs ws f i acc = .ok (acc, i) := by
      cases f with
      | zero => rfl
      | succ f => unfold rdOutMore; rw [if_pos (by omega)]
    refine ⟨(acc, i), e1, ?_, rfl, h4, hp⟩
    rw [List.drop_eq_nil_of_le (by omega), List.append_nil]
  | d + 1, i, f, acc, hi, ha, h4, hf, hp => by
    obtain ⟨f, rfl⟩ : ∃ k, f = k + 1 := ⟨f - 1, by omega⟩
    have hlt : i < ws.length := by omega
    have hd : ws.drop i = ws.getD i "" :: ws.drop (i + 1) := by
      rw [List.drop_eq_getElem_cons hlt, List.getD_eq_getElem?_getD, List.getElem?_eq_getElem hlt]; rfl
    rw [List.range'_succ, List.filter_cons]
    have e1 : rdOutMore zs ws (f + 1) i acc = if acc.length = 4 then .error (i + 1) else if ws.getD i "" ∈ zs then rdOutMore zs ws f (i + 1) (acc ++ [zs.idxOf (ws.getD i "")]) else .error (i + 1) := by
      conv => lhs; unfold rdOutMore
      rw [if_neg (by omega : ¬ i = ws.length), sees_at hlt]
    rw [e1]
    by_cases h5 : acc.length = 4
    · rw [if_pos (show (decide (4 < i) || !decide (ws.getD i "" ∈ zs)) = true from by rw [decide_eq_true (by omega : 4 < i)]; rfl), if_pos h5]
      rfl
    by_cases hm : ws.getD i "" ∈ zs
    · rw [if_neg (show ¬ (decide (4 < i) || !decide (ws.getD i "" ∈ zs)) = true from by rw [decide_eq_false (by omega : ¬ 4 < i), decide_eq_true hm]; exact Bool.false_ne_true), if_neg h5, if_pos hm]
      have hix := zAt_idx hm
      have hal : (acc ++ [zs.idxOf (ws.getD i "")]).length = acc.length + 1 := by rw [List.length_append]; rfl
      have := outMore_all (zs := zs) (ws := ws) d (i + 1) f (acc ++ [zs.idxOf (ws.getD i "")]) (by omega) (by omega) (by omega) (by omega) (fun p hpm => by
        rcases List.mem_append.mp hpm with hpm | hpm
        · exact hp p hpm
        · rw [List.mem_singleton.mp hpm]; exact hix.2)
      rw [hal] at this
      have e : (acc ++ [zs.idxOf (ws.getD i "")]).map (zAt zs) ++ ws.drop (i + 1) = acc.map (zAt zs) ++ ws.drop i := by
        rw [hd, List.map_append, List.map_cons, List.map_nil, hix.1]
        simp only [List.append_assoc, List.cons_append, List.nil_append]
      rw [e, show acc.length + 1 + d = acc.length + (d + 1) by omega] at this
      exact this
    · rw [if_pos (show (decide (4 < i) || !decide (ws.getD i "" ∈ zs)) = true from by rw [decide_eq_false hm]; simp), if_neg h5, if_neg hm]
      rfl
theorem outs_all {zs ws : List Str} (hb : (" " : Str) ∉ zs) : Ag (outFault zs ws) (rdOuts zs ws) (fun x => ws = ("out" : Str) :: x.1.map (zAt zs) ∧ 0 < x.1.length ∧ x.1.length ≤ 4 ∧ ∀ p ∈ x.1, p < zs.length) := by
  unfold outFault rdOuts
  match ws with
  | [] =>
    rw [if_pos (by simp), takes_no (zs := ["out"]) (by rw [show seesW [] 0 = " " from sees_end []]; decide)]
    rfl
  | a :: r =>
    have s0 : seesW (a :: r) 0 = a := sees_at (by simp)
    rw [show (a :: r).take 1 = [a] from rfl]
    by_cases ho : a = "out"
    rotate_left
    · rw [if_pos (fun h => ho (List.cons.inj h).1), takes_no (zs := ["out"]) (by rw [s0]; simpa using ho)]
      rfl
    subst ho
    rw [if_neg (by simp), takes_yes (zs := ["out"]) (by rw [s0]; simp)]
    dsimp only
    by_cases h1 : (("out" : Str) :: r).length = 1
    · rw [if_pos h1]
      have hr : r = [] := by
        cases r with
        | nil => rfl
        | cons b r => simp at h1
      subst hr
      rw [takes_no (zs := zs) (by rw [show seesW [("out" : Str)] (0 + 1) = " " from sees_end ["out"]]; exact hb)]
      rfl
    · rw [if_neg h1]
      have hl : 1 < (("out" : Str) :: r).length := by
        cases r with
        | nil => exact absurd rfl h1
        | cons b r => simp
      have h := outMore_all (zs := zs) (ws := ("out" : Str) :: r) ((("out" : Str) :: r).length - 1) 1 ((("out" : Str) :: r).length - 1) [] (by omega) rfl (by simp) (Nat.le_refl _) (by simp)
      rw [List.range'_eq_map_range] at h
      have fin : Ag (match ((List.range ((("out" : Str) :: r).length - 1)).map fun i => 1 + i).filter fun k => decide (4 < k) || !decide ((("out" : Str) :: r).getD k "" ∈ zs) with | [] => none | k :: _ => some (k + 1)) (rdOutMore zs (("out" : Str) :: r) ((("out" : Str) :: r).length - 1) 1 []) (fun x => ("out" : Str) :: r = ("out" : Str) :: x.1.map (zAt zs) ∧ 0 < x.1.length ∧ x.1.length ≤ 4 ∧ ∀ p ∈ x.1, p < zs.length) := by
        generalize rdOutMore zs (("out" : Str) :: r) ((("out" : Str) :: r).length - 1) 1 [] = R at *
        revert h
        cases hf : ((List.range ((("out" : Str) :: r).length - 1)).map fun i => 1 + i).filter fun k => decide (4 < k) || !decide ((("out" : Str) :: r).getD k "" ∈ zs) with
        | cons k l => exact fun h => h
        | nil =>
          rintro ⟨x, e1, e2, e3, e4, e5⟩
          refine ⟨x, e1, ?_, by simp only [List.length_nil] at e3; omega, e4, e5⟩
          rw [e2]
          rfl
      obtain ⟨k, hk⟩ : ∃ k, (("out" : Str) :: r).length - 1 = k + 1 := ⟨(("out" : Str) :: r).length - 2, by omega⟩
      have eR : rdOutMore zs (("out" : Str) :: r) ((("out" : Str) :: r).length - 1) 1 [] = if seesW (("out" : Str) :: r) 1 ∈ zs then rdOutMore zs (("out" : Str) :: r) k 2 [zs.idxOf (seesW (("out" : Str) :: r) 1)] else .error 2 := by
        conv => lhs; rw [hk]; unfold rdOutMore
        rw [if_neg (by omega : ¬ 1 = (("out" : Str) :: r).length), if_neg (by simp : ¬ ([] : List Nat).length = 4)]
        rfl
      rw [eR] at fin
      by_cases hm : seesW (("out" : Str) :: r) 1 ∈ zs
      · rw [if_pos hm] at fin
        rw [takes_yes (i := 0 + 1) hm]
        dsimp only
        rw [show (("out" : Str) :: r).length - (0 + 1 + 1) = k by omega]
        exact fin
      · rw [if_neg hm] at fin
        rw [takes_no (i := 0 + 1) hm]
        exact fin
theorem words_pos {ls : List Str} {i : Nat} (h : i < ls.length) : 0 < (wordsAt ls i).length := by
  unfold wordsAt
  rw [if_pos h]
  exact List.length_pos_iff.mpr (split_ok (s := 32) rfl (by decide +kernel)).ne
theorem words_none {ls : List Str} {i : Nat} (h : ¬ i < ls.length) : wordsAt ls i = [] := by
  unfold wordsAt
  rw [if_neg h]
theorem plus_no (n m : Nat) : ("+" : Str) ∉ namesOf n m := fun h => (names_word _ h).2 rfl

/-! ### joined and cut texts -/
theorem OkS.cut {x : Str} {lo hi : Option Int} (h : OkS x) : OkS (cutS x lo hi) := by
  intro c hc
  refine h c ?_
  unfold cutS at hc
  exact List.mem_of_mem_drop (List.mem_of_mem_take hc)
theorem cutW_drop (ws : List Str) (k : Nat) : dcut (ws.map D.str) (some (k : Int)) none = (ws.drop k).map D.str := by rw [dcut_drop, List.map_drop]
/-- the signs of some texts and one more each -/
def wide (ps : List Str) : Nat := (ps.map (·.length)).sum + ps.length
theorem wide_app (a b : List Str) : wide (a ++ b) = wide a + wide b := by
  unfold wide
  rw [List.map_append, List.sum_append, List.length_append]
  omega
theorem wide_take (k : Nat) (ps : List Str) : wide (ps.take k) + wide (ps.drop k) = wide ps := by rw [← wide_app, List.take_append_drop]
theorem wide_one (x : Str) : wide [x] = x.length + 1 := by simp [wide]
theorem join_wide {y : Str} (h1 : y.length = 1) (ps : List Str) : (Txt.join y ps).length ≤ wide ps ∧ (ps ≠ [] → (Txt.join y ps).length + 1 = wide ps) := by
  have e : (Txt.join y ps).length = (ps.map (·.length)).sum + (ps.length - 1) * y.length := size_glued y ps
  rw [h1, Nat.mul_one] at e
  unfold wide
  refine ⟨by omega, fun h => ?_⟩
  have := List.length_pos_iff.mpr h
  omega
theorem split_wide {z y : Str} {s : Nat} (h1 : y.length = 1) (h : SplitOk z y s (Txt.split z y)) : wide (Txt.split z y) = z.length + 1 := by
  have := (join_wide h1 (Txt.split z y)).2 h.ne
  rw [h.join] at this
  exact this.symm
theorem tx_ok {z : Str} (hl : z.length ≤ 210000) : TxOk z := by
  have hsz : sizeLine = 16777216 := sizeLine_eq
  have hs := split_ok (z := z) (y := "\n") (s := 10) rfl (by decide +kernel)
  refine ⟨by omega, fun l hlm => ?_⟩
  have h1 := hs.len l hlm
  have hc : SplitOk l " " 32 (Txt.split l " ") := split_ok rfl (by decide +kernel)
  exact ⟨by omega, fun w hw => by have := hc.len w hw; omega⟩

/-! ### texts at their limits, line by line -/
theorem lines_split {ls : List (Str × List Str)} (h : ∀ l ∈ ls, LnOk l.1 l.2) (hne : ls ≠ []) : Txt.split (Txt.join "\n" (ls.map (·.1))) "\n" = ls.map (·.1) := by
  refine TL.split_join (y := "\n") (s := 10) (S := []) rfl (by decide +kernel) (by simpa using hne) fun p hp => ?_
  obtain ⟨l, hl, rfl⟩ := List.mem_map.mp hp
  exact (h l hl).nl
theorem lines_words {ls : List (Str × List Str)} (h : ∀ l ∈ ls, LnOk l.1 l.2) {i : Nat} {l : Str × List Str} (hi : ls[i]? = some l) : wordsAt (ls.map (·.1)) i = l.2 := by
  obtain ⟨hlt, e⟩ := List.getElem?_eq_some_iff.mp hi
  unfold wordsAt
  rw [if_pos (by rw [List.length_map]; exact hlt), List.getD_eq_getElem?_getD, List.getElem?_map, hi]
  exact (h l (by rw [← e]; exact List.getElem_mem hlt)).split
theorem lines_none {ls : List (Str × List Str)} {i : Nat} (hi : ls.length ≤ i) : wordsAt (ls.map (·.1)) i = [] := words_none (by rw [List.length_map]; omega)
def RsOk (n : Nat) (rs : List RwI) : Prop := ∀ k r, rs[k]? = some r → r.2.length ≤ 6 ∧ ∀ t ∈ r.2, DTm (n + k) t
/-- the line of the inputs and the lines of the rows -/
def headL (n : Nat) (rs : List RwI) : List (Str × List Str) := ("in " ++ numT n, [("in" : Str), numT n]) :: (List.range rs.length).map fun k => (lineText (namesOf n k) k (rs.getD k (false, [])), lineW (namesOf n k) k (rs.getD k (false, [])))
theorem headL_len (n : Nat) (rs : List RwI) : (headL n rs).length = rs.length + 1 := by simp [headL]
theorem headL_row {n : Nat} {rs : List RwI} {k : Nat} {r : RwI} (h : rs[k]? = some r) : (headL n rs)[k + 1]? = some (lineText (namesOf n k) k r, lineW (namesOf n k) k r) := by
  have hk := (List.getElem?_eq_some_iff.mp h).1
  have e : rs.getD k (false, []) = r := by rw [List.getD_eq_getElem?_getD, h]; rfl
  unfold headL
  rw [List.getElem?_cons_succ, List.getElem?_map, List.getElem?_range hk]
  show some (lineText (namesOf n k) k (rs.getD k (false, [])), lineW (namesOf n k) k (rs.getD k (false, []))) = _
  rw [e]
theorem headL_ok {n : Nat} {rs : List RwI} (hn : n ≤ 4) (hm : rs.length ≤ 13) (h : RsOk n rs) : ∀ l ∈ headL n rs, LnOk l.1 l.2 := by
  intro l hl
  unfold headL at hl
  rcases List.mem_cons.mp hl with rfl | hl
  · exact in_line hn
  · obtain ⟨k, hk, rfl⟩ := List.mem_map.mp hl
    have hk := List.mem_range.mp hk
    have e : rs.getD k (false, []) = rs[k] := by rw [List.getD_eq_getElem?_getD, List.getElem?_eq_getElem hk]; rfl
    dsimp only
    rw [e]
    exact line_line hn (by omega) (by omega) (h k _ (List.getElem?_eq_getElem hk)).2
theorem headL_size {n : Nat} {rs : List RwI} (hn : n ≤ 4) (hm : rs.length ≤ 13) (h : RsOk n rs) : ∀ y ∈ (headL n rs).map (·.1), y.length ≤ 13000 ∧ OkS y := by
  intro y hy
  obtain ⟨l, hl, rfl⟩ := List.mem_map.mp hy
  unfold headL at hl
  rcases List.mem_cons.mp hl with rfl | hl
  · have := in_word n (List.mem_range.mpr (by omega))
    have h3 : ("in " : Str).length = 3 := by decide
    refine ⟨?_, OkS.add (OkS.lit _) (OkS.lit _)⟩
    dsimp only
    rw [PySem.Str.length_append, h3]
    omega
  · obtain ⟨k, hk, rfl⟩ := List.mem_map.mp hl
    have hk := List.mem_range.mp hk
    have e : rs.getD k (false, []) = rs[k] := by rw [List.getD_eq_getElem?_getD, List.getElem?_eq_getElem hk]; rfl
    have hr := h k _ (List.getElem?_eq_getElem hk)
    have hz := names_zok (n := n) (m := k) (by omega)
    dsimp only
    rw [e]
    refine ⟨lineText_len (by omega) hz ⟨by omega, fun t ht => ?_⟩, ?_⟩
    · have h3 := hr.2 t ht
      refine ⟨Nat.lt_of_le_of_lt h3.1 (by decide), by have := h3.2.1; omega, fun q hq => ?_⟩
      rw [names_len hn]
      exact h3.2.2 q hq
    · unfold lineText
      refine OkS.add (OkS.add (OkS.add (OkS.add (OkS.of (rName_ok k _ (by simp))) (OkS.lit _)) ?_) (OkS.lit _)) ?_
      · unfold wdV; split <;> exact OkS.lit _
      · split
        · exact OkS.lit _
        · refine OkS.join (OkS.lit _) fun y hy => ?_
          obtain ⟨t, _, rfl⟩ := List.mem_map.mp hy
          exact termText_ok hz
/-- lines whose first ones are these -/
structure HeadOf (ls : List Str) (n : Nat) (rs : List RwI) : Prop where
  inp : wordsAt ls 0 = [("in" : Str), numT n]
  rows : ∀ k r, rs[k]? = some r → wordsAt ls (k + 1) = lineW (namesOf n k) k r
theorem head_of {n : Nat} {rs : List RwI} {more : List (Str × List Str)} (hn : n ≤ 4) (hm : rs.length ≤ 13) (h : RsOk n rs) (hmore : ∀ l ∈ more, LnOk l.1 l.2) : HeadOf ((headL n rs ++ more).map (·.1)) n rs ∧ ∀ i l, more[i]? = some l → wordsAt ((headL n rs ++ more).map (·.1)) (rs.length + 1 + i) = l.2 := by
  have hok : ∀ l ∈ headL n rs ++ more, LnOk l.1 l.2 := fun l hl => (List.mem_append.mp hl).elim (headL_ok hn hm h l) (hmore l)
  have hlen := headL_len n rs
  refine ⟨⟨lines_words hok (l := ("in " ++ numT n, [("in" : Str), numT n])) rfl, fun k r hr => ?_⟩, fun i l hi => lines_words hok (l := l) ?_⟩
  · have hk := (List.getElem?_eq_some_iff.mp hr).1
    refine lines_words hok (l := (lineText (namesOf n k) k r, lineW (namesOf n k) k r)) ?_
    rw [List.getElem?_append_left (by omega)]
    exact headL_row hr
  · rw [List.getElem?_append_right (by omega), hlen, show rs.length + 1 + i - (rs.length + 1) = i by omega]
    exact hi
theorem rows_pre {ls : List Str} {n : Nat} {rs : List RwI} (hn : n ≤ 4) (hm : rs.length ≤ 12) (h : RsOk n rs) (hl : HeadOf ls n rs) : ∀ (d k : Nat), k + d = rs.length → rdRows ls n (12 - k) (rs.take k) = rdRows ls n (12 - rs.length) rs
  | 0, k, hk => by
    obtain rfl : k = rs.length := by omega
    rw [List.take_length]
  | d + 1, k, hkd => by
    have hk : k < rs.length := by omega
    have hr : rs[k]? = some rs[k] := List.getElem?_eq_getElem hk
    have hrow := h k _ hr
    have hlen : (rs.take k).length = k := by rw [List.length_take]; omega
    obtain ⟨j, e⟩ := rdRow_word (k := k) hn hrow.1 hrow.2
    obtain ⟨f, hf⟩ : ∃ f, 12 - k = f + 1 := ⟨12 - k - 1, by omega⟩
    have ih := rows_pre hn hm h hl d (k + 1) (by omega)
    have ef : 12 - (k + 1) = f := by omega
    rw [ef, ← List.take_append_getElem hk] at ih
    rw [hf]
    conv => lhs; unfold rdRows
    rw [hlen, hl.rows k _ hr, if_pos ⟨rfl, by omega⟩, e]
    exact ih
theorem read_head {ls : List Str} {n : Nat} {rs : List RwI} (hn : n ≤ 4) (hm : rs.length ≤ 12) (h : RsOk n rs) (hl : HeadOf ls n rs) : rdLines ls = match rdRows ls n (12 - rs.length) rs with
    | .error e => .error e
    | .ok rs => rdRest ls n rs := by
  obtain ⟨j, e1⟩ := rdIn_word hn
  have e2 := rows_pre hn hm h hl rs.length 0 (by simp)
  rw [List.take_zero, show (12 : Nat) - 0 = 12 from rfl] at e2
  unfold rdLines
  rw [hl.inp, e1]
  dsimp only
  rw [e2]
  all_goals (cases rdRows ls n (12 - rs.length) rs <;> rfl)
theorem rows_stop {ls : List Str} {n f : Nat} {rs : List RwI} (h : seesW (wordsAt ls (rs.length + 1)) 0 ≠ rName rs.length ∨ 12 ≤ rs.length) : rdRows ls n f rs = .ok rs := by
  cases f with
  | zero => rfl
  | succ f =>
    unfold rdRows
    rw [if_neg]
    rintro ⟨h1, h2⟩
    rcases h with h | h
    · exact h h1
    · omega
/-- the last line -/
theorem rest_of {ls : List Str} {n : Nat} {rs : List RwI} {O : List Str} (hO : wordsAt ls (rs.length + 1) = O) : (∀ w, outFault (namesOf n rs.length) O = some w → rdRest ls n rs = .error (rs.length + 2, w)) ∧ (outFault (namesOf n rs.length) O = none → wordsAt ls (rs.length + 2) = [] → ∃ x, rdRest ls n rs = .ok x) := by
  have h := outs_all (zs := namesOf n rs.length) (ws := O) (names_ok n rs.length).sp
  unfold rdRest
  rw [hO]
  refine ⟨fun w hw => ?_, fun hw hl => ?_⟩
  · rw [hw] at h
    have h : rdOuts (namesOf n rs.length) O = .error w := h
    rw [h]
  · rw [hw] at h
    obtain ⟨⟨os, j⟩, e, _⟩ := h
    rw [e]
    dsimp only
    rw [if_pos hl]
    exact ⟨_, rfl⟩
theorem read_out {ls : List Str} {n : Nat} {rs : List RwI} {O : List Str} (hn : n ≤ 4) (hm : rs.length ≤ 12) (h : RsOk n rs) (hl : HeadOf ls n rs) (hO : wordsAt ls (rs.length + 1) = O) (hs : seesW O 0 ≠ rName rs.length ∨ 12 ≤ rs.length) : (∀ w, outFault (namesOf n rs.length) O = some w → rdLines ls = .error (rs.length + 2, w)) ∧ (outFault (namesOf n rs.length) O = none → wordsAt ls (rs.length + 2) = [] → ∃ x, rdLines ls = .ok x) := by
  have e : rdLines ls = rdRest ls n rs := by
    rw [read_head hn hm h hl, rows_stop (by rw [hO]; exact hs)]
  rw [e]
  exact rest_of hO
theorem out_r0 {n m : Nat} (hm : 0 < m) : outFault (namesOf n m) [("out" : Str), "r0"] = none := by
  have h0 : ("r0" : Str) ∈ namesOf n m := List.mem_append_right _ (List.mem_map.mpr ⟨0, List.mem_range.mpr hm, by decide +kernel⟩)
  unfold outFault
  rw [if_neg (by simp), if_neg (by simp)]
  have e : ((List.range ([("out" : Str), "r0"].length - 1)).map fun i => 1 + i) = [1] := rfl
  rw [e, List.filter_cons, if_neg]
  · rfl
  · have : ([("out" : Str), "r0"]).getD 1 "" = "r0" := rfl
    rw [this, decide_eq_true h0]
    decide
theorem read_row_line {ls : List Str} {n : Nat} {rs : List RwI} {W : List Str} (hn : n ≤ 4) (hm : rs.length < 12) (h : RsOk n rs) (hl : HeadOf ls n rs) (hW : wordsAt ls (rs.length + 1) = W) (h0 : 0 < W.length) (hr : W.getD 0 "" = rName rs.length) (hO : wordsAt ls (rs.length + 2) = [("out" : Str), "r0"]) (hlast : wordsAt ls (rs.length + 3) = []) :
    (∀ w, rowFault (namesOf n rs.length) W = some w → rdLines ls = .error (rs.length + 2, w)) ∧ (rowFault (namesOf n rs.length) W = none → ∃ x, rdLines ls = .ok x) := by
  have hrow := row_all (zs := namesOf n rs.length) (plus_no _ _) h0 hr
  obtain ⟨f, hf⟩ : ∃ f, 12 - rs.length = f + 1 := ⟨12 - rs.length - 1, by omega⟩
  have e : rdRows ls n (12 - rs.length) rs = match rdRow (namesOf n rs.length) W rs.length with
      | .error w => .error (rs.length + 2, w)
      | .ok (r, _) => rdRows ls n f (rs ++ [r]) := by
    rw [hf]
    conv => lhs; unfold rdRows
    rw [hW, if_pos ⟨by rw [sees_at h0]; exact hr, hm⟩]
    all_goals (cases rdRow (namesOf n rs.length) W rs.length <;> rfl)
  rw [read_head hn (Nat.le_of_lt hm) h hl, e]
  refine ⟨fun w hw => ?_, fun hw => ?_⟩
  · rw [hw] at hrow
    have hrow : rdRow (namesOf n rs.length) W rs.length = .error w := hrow
    rw [hrow]
  · rw [hw] at hrow
    obtain ⟨⟨r, j⟩, e1, _⟩ := hrow
    rw [e1]
    dsimp only
    have hal : (rs ++ [r]).length = rs.length + 1 := by rw [List.length_append]; rfl
    have hO2 : wordsAt ls ((rs ++ [r]).length + 1) = [("out" : Str), "r0"] := by rw [hal]; exact hO
    rw [rows_stop (rs := rs ++ [r]) (.inl (by
      rw [hO2]
      exact fun e => rName_head (w := "out") (by decide) e.symm))]
    dsimp only
    exact (rest_of hO2).2 (out_r0 (by omega)) (by rw [hal]; exact hlast)

/-! ### the lines of the law (k88) -/
/-- rows of one term of five -/
def FiveRs (n : Nat) (rs : List RwI) : Prop := ∀ k r, rs[k]? = some r → ∃ ps : List Nat, r.2 = [(5, ps)] ∧ ps.length ≤ 1 ∧ ∀ q ∈ ps, q < n + k
theorem FiveRs.ok {n : Nat} {rs : List RwI} (h : FiveRs n rs) : RsOk n rs := fun k r hr => by
  obtain ⟨ps, e, h1, h2⟩ := h k r hr
  rw [e]
  refine ⟨by simp, fun t ht => ?_⟩
  rw [List.mem_singleton.mp ht]
  exact ⟨(by decide : (5 : Int).natAbs ≤ 99), by show ps.length ≤ 2; omega, h2⟩
/-- the line of such a row -/
theorem five_line (zs : List Str) (k : Nat) (b : Bool) (P : Str) (j : Nat) (ps : List Nat) (h : (P = "" ∧ j = 0 ∧ ps = []) ∨ (j = 1 ∧ ∃ q, ps = [q] ∧ zAt zs q = P)) : rName k ++ " = " ++ wdV b ++ " 5" ++ repS " " j ++ P = lineText zs k (b, [(5, ps)]) := by
  unfold lineText
  rw [if_neg (by simp)]
  have e5 : numT 5 = "5" := by decide +kernel
  have ej : Txt.join " + " ([(5, ps)].map (termText zs)) = termText zs (5, ps) := by rw [TL.join_eq]; rfl
  rw [ej]
  unfold termText
  dsimp only
  rw [e5]
  refine TL.ext_tl ?_
  simp only [TL.tl_append, TL.join_eq, TL.tl_join]
  rw [show TL.tl (" 5" : Str) = [32, 53] from rfl, show TL.tl (" " : Str) = [32] from rfl, show TL.tl (repS " " j) = (List.replicate j [32]).flatten from repS_tl _ _]
  rcases h with ⟨rfl, rfl, rfl⟩ | ⟨rfl, q, rfl, rfl⟩
  · rw [show TL.tl ("" : Str) = [] from rfl]
    simp [TL.joinL, show TL.tl ("5" : Str) = [53] from rfl]
  · simp [TL.joinL, show TL.tl ("5" : Str) = [53] from rfl]
theorem headL_snoc (n : Nat) (rs : List RwI) (r : RwI) : (headL n (rs ++ [r])).map (·.1) = (headL n rs).map (·.1) ++ [lineText (namesOf n rs.length) rs.length r] := by
  unfold headL
  rw [List.length_append, List.length_singleton, List.range_succ]
  simp only [List.map_cons, List.map_append, List.map_map, List.map_nil, List.cons_append]
  congr 1
  have e2 : (rs ++ [r]).getD rs.length (false, []) = r := by rw [List.getD_eq_getElem?_getD, List.getElem?_append_right (Nat.le_refl _), Nat.sub_self]; rfl
  rw [e2]
  congr 1
  refine List.map_congr_left fun k hk => ?_
  have hk := List.mem_range.mp hk
  have e1 : (rs ++ [r]).getD k (false, []) = rs.getD k (false, []) := by rw [List.getD_eq_getElem?_getD, List.getD_eq_getElem?_getD, List.getElem?_append_left hk]
  show lineText (namesOf n k) k ((rs ++ [r]).getD k (false, [])) = lineText (namesOf n k) k (rs.getD k (false, []))
  rw [e1]
theorem names_addL {n m : Nat} {G : HH} {Q : QD} (hm : m ≤ 1000) (hq : Q (.lst ((namesOf n m).map D.str)) G) : aAny (.lst (dcut [D.str "a", D.str "b", D.str "c", D.str "d"] none (some (n : Int)))) (.lst ((List.range m).map fun k => D.str (rName k))) G Q := by
  have ed : dcut [D.str "a", D.str "b", D.str "c", D.str "d"] none (some (n : Int)) = ([("a" : Str), "b", "c", "d"].take n).map D.str := (dcut_take [D.str "a", D.str "b", D.str "c", D.str "d"] n).trans (by rw [List.map_take]; rfl)
  have er : (List.range m).map (fun k => D.str (rName k)) = ((List.range m).map rName).map D.str := by rw [List.map_map]; rfl
  rw [ed, er]
  exact st_addLm (by rw [List.length_take, List.length_map, List.length_range, sizeLine_eq]; simp; omega) hq
def N_law_lines : List Str := ["_law_feed_here", "_law_inputs", "_law_count", "_law_found", "_law_k", "_law_names", "_law_place", "_law_j"]
abbrev t_law_lines_1 : TSD := (dDrop (dBM tyL mAppend (dVar 3) (dCons (dOp aAny (dOp aAny (dOp aAny (dOp aAny (dOp aAny (dOp aAny (dC (.str "r")) (dCB kStr (dCons (dVar 4) dNil))) (dC (.str " = "))) (dCall sp_law_one (dCons (dVar 0) (dCons (dLst (dCons (dC (.str "round")) (dCons (dC (.str "exact")) dNil))) dNil)))) (dC (.str " 5"))) (dOp mStr (dC (.str " ")) (dCB kInt (dCons (dOp (eAny true) (dVar 6) (dC (.str ""))) dNil)))) (dVar 6)) dNil)))
abbrev t_law_lines_2 : TSD := (dSeq (dAsg (dOp aAny (dOp aAny (dSl (dLst (dCons (dC (.str "a")) (dCons (dC (.str "b")) (dCons (dC (.str "c")) (dCons (dC (.str "d")) dNil))))) dNoPart (dPart (dVar 1))) (dLc true (iRngD1 (dCons (dVar 4) dNil)) (.nm 7) dYes (dOp aAny (dC (.str "r")) (dCB kStr (dCons (dVar 7) dNil))) [7])) (dLst (dCons (dC (.str "")) dNil))) (gdName 5))
  (dSeq (dAsg (dCall sp_law_one (dCons (dVar 0) (dCons (dVar 5) dNil))) (gdName 6))
  t_law_lines_1))
def t_law_lines : TSD := (dSeq (dAsg (dLstM (dCons (dOp aAny (dC (.str "in ")) (dCB kStr (dCons (dVar 1) dNil))) dNil)) (gdName 3))
  (dSeq (dFor (iRngD1 (dCons (dVar 2) dNil)) (gdName 4)
  t_law_lines_2)
  (dFrz 3 (dRet (dVar 3)))))
def sp_law_lines : SpD := fun ds G Q _ => ∃ (p : Addr) (n m N : Nat), ds = [.ref p, dN n, dN m] ∧ Feed G p N ∧ N ≤ 2 ^ 28 ∧ n ≤ 4 ∧ m ≤ 13 ∧ ∀ (rs : List RwI) G', rs.length = m → FiveRs n rs → Feed G' p (N + 100) → Bk p G G' → Q (.lst (((headL n rs).map (·.1)).map D.str)) G'
theorem len_law_lines : LN sp_law_lines 3 := by rintro ds G Q E ⟨p, n, m, N, rfl, _⟩; rfl
theorem vc_law_lines : VC sp_law_lines N_law_lines t_law_lines := by
  rintro ds G Q EX ⟨p, n, m, N, rfl, hF, hN, hn, hm, hq⟩
  have hsz : sizeLine = 16777216 := sizeLine_eq
  walk_at "go law_lines"
  refine st_strI (log_small (by omega)) ?_
  have hnl := num_len (k := n) (by omega)
  have h3 : ("in " : Str).length = 3 := by decide
  refine st_addSl (by rw [h3]; exact Nat.le_trans (Nat.add_le_add_left hnl 3) (by decide)) ?_
  walk_at "d"
  intro q hqn
  walk_at "d"
  have hpq : p ≠ q := fun e => hF.some (by rw [e]; exact hqn)
  have hF0 := hF.put (o := .lst [.str (Str.ofString "in " ++ Str.ofString (toString (n : Int)))]) hpq
  have hq0 : gput G q (.lst [.str (Str.ofString "in " ++ Str.ofString (toString (n : Int)))]) q = some (.lst (((headL n []).map (·.1)).map D.str)) := gput_same
  have hB0 : ∀ b, b ≠ p → b ≠ q → gput G q (.lst [.str (Str.ofString "in " ++ Str.ofString (toString (n : Int)))]) b = G b := fun b _ h => gput_ne h
  generalize gput G q (.lst [.str (Str.ofString "in " ++ Str.ofString (toString (n : Int)))]) = G0 at *
  rw [Int.toNat_natCast]
  refine for_rngL_set [4, 5, 6, 7] (fun i vs G' => ∃ (rs : List RwI) (u4 u5 u6 u7 : Option D), vs = [u4, u5, u6, u7] ∧ rs.length = i ∧ FiveRs n rs ∧ G' q = some (.lst (((headL n rs).map (·.1)).map D.str)) ∧ Feed G' p (N + 5 * i) ∧ ∀ b, b ≠ p → b ≠ q → G' b = G b) rfl ⟨[], _, _, _, _, rfl, rfl, fun k r h => by simp at h, hq0, hF0.mono (by omega), hB0⟩ ?_ ?_
  · rintro i vs G1 hi ⟨rs, u4, u5, u6, u7, rfl, hrl, hrs, hq1, hF1, hB1⟩
    walk_at "sl"
    rw [Int.zero_add, Int.toNat_natCast]
    refine lc_rg (lc_evY (f := fun k : Nat => D.str (rName k)) (fun _ _ _ => trivial) (by rw [List.length_range, sizeLine_eq]; omega) (fun k hk q2 acc hq2 => ⟨_, rfl, ?_⟩) ?_)
    · dsimp only [wipeD, List.set]
      intro Qe Ee qe
      have hk2 := List.mem_range.mp hk
      have hl := log_small (k := k) (by omega)
      walk_at "d"
      refine st_strI hl ?_
      have hrl := num_len (k := k) (by omega)
      refine st_addS (x := "r") (by rw [sizeLine_eq, show ("r" : Str).length = 1 by decide]; exact Nat.le_trans (Nat.add_le_add_left hrl 1) (by decide)) ?_
      exact qe
    refine names_addL (by omega) ?_
    have hnlen := names_len (n := n) (m := i) hn
    walk_at "d"
    rw [show (namesOf n i).map D.str ++ [D.str ""] = (namesOf n i ++ [("" : Str)]).map D.str from by rw [List.map_append]; rfl]
    refine st_oneM (c := D.str) (l := namesOf n i ++ [("" : Str)]) hF1 (by omega) ⟨by simp, by rw [List.length_append, hnlen]; simp only [List.length_singleton]; omega⟩ fun P G2 hP hF2 hB2 => ?_
    have hq2 : G2 q = some (.lst (((headL n rs).map (·.1)).map D.str)) := (hB2 q (Ne.symm hpq)).trans hq1
    walk_at "d"
    refine st_strI (log_small (by omega)) ?_
    have hrl2 := num_len (k := i) (by omega)
    refine st_addSl (x := "r") (by rw [show ("r" : Str).length = 1 by decide]; exact Nat.le_trans (Nat.add_le_add_left hrl2 1) (by decide)) ?_
    rw [show ("r" : Str) ++ Str.ofString (toString (i : Int)) = rName i from rfl]
    have l1 := rName_len (k := i) (by omega)
    have l2 : (" = " : Str).length = 3 := by decide
    have l3 : (" 5" : Str).length = 2 := by decide
    have l4 : (" " : Str).length = 1 := by decide
    walk_at "d"
    refine st_addSl (by omega) ?_
    walk_at "d"
    refine st_oneM (c := D.str) (l := ["round", "exact"]) hF2 (by omega) ⟨by simp, by simp⟩ fun w G3 hw hF3 hB3 => ?_
    have hq3 : G3 q = some (.lst (((headL n rs).map (·.1)).map D.str)) := (hB3 q (Ne.symm hpq)).trans hq2
    obtain ⟨b, rfl⟩ : ∃ b, w = wdV b := by
      simp only [List.mem_cons, List.not_mem_nil, or_false] at hw
      rcases hw with rfl | rfl
      · exact ⟨true, rfl⟩
      · exact ⟨false, rfl⟩
    have l5 : (wdV b).length ≤ 5 := by cases b <;> decide
    have lP : P.length ≤ 5 := by
      rcases List.mem_append.mp hP with h | h
      · exact (names_zok (n := n) (m := i) (by omega) P h).1
      · rw [List.mem_singleton.mp h]; decide
    walk_at "d"
    refine st_addSl (by rw [PySem.Str.length_append]; omega) ?_
    walk_at "d"
    refine st_addSl (by rw [PySem.Str.length_append, PySem.Str.length_append]; omega) ?_
    obtain ⟨j, ej, hj1, ps, hps, hpl, hpn⟩ : ∃ j : Nat, (if (!decide (P = "")) = true then (1 : Int) else 0) = (j : Int) ∧ j ≤ 1 ∧ ∃ ps : List Nat, ((P = "" ∧ j = 0 ∧ ps = []) ∨ (j = 1 ∧ ∃ q, ps = [q] ∧ zAt (namesOf n i) q = P)) ∧ ps.length ≤ 1 ∧ ∀ q ∈ ps, q < n + i := by
      by_cases h : P = ""
      · exact ⟨0, by rw [decide_eq_true h]; rfl, by decide, [], .inl ⟨h, rfl, rfl⟩, by decide, by simp⟩
      · have hm2 : P ∈ namesOf n i := by
          rcases List.mem_append.mp hP with h2 | h2
          · exact h2
          · exact absurd (List.mem_singleton.mp h2) h
        have hix := zAt_idx hm2
        rw [hnlen] at hix
        exact ⟨1, by rw [decide_eq_false h]; rfl, Nat.le_refl _, [(namesOf n i).idxOf P], .inr ⟨rfl, _, rfl, hix.1⟩, Nat.le_refl _, fun q hq => by rw [List.mem_singleton.mp hq]; exact hix.2⟩
    walk_at "d"
    rw [ej]
    refine st_repS ⟨by omega, by omega⟩ (by decide) (by rw [l4, hsz]; omega) ?_
    rw [Int.toNat_natCast]
    have l6 := repS_len " " j
    rw [l4] at l6
    walk_at "d"
    refine st_addSl (by rw [PySem.Str.length_append, PySem.Str.length_append, PySem.Str.length_append]; omega) ?_
    walk_at "d"
    refine st_addSl (by rw [PySem.Str.length_append, PySem.Str.length_append, PySem.Str.length_append, PySem.Str.length_append]; omega) ?_
    rw [five_line (namesOf n i) i b P j ps hps]
    walk_at "d"
    refine st_append hq3 (by rw [List.length_map, List.length_map, headL_len, hsz]; omega) ?_
    refine fin_set rfl ⟨rs ++ [(b, [(5, ps)])], _, _, _, _, rfl, by rw [List.length_append, hrl]; rfl, fun k r hk => ?_, ?_, (hF3.put hpq).mono (by omega), fun c h1 h2 => (gput_ne h2).trans ((hB3 c h1).trans ((hB2 c h1).trans (hB1 c h1 h2)))⟩
    · by_cases hkl : k < rs.length
      · rw [List.getElem?_append_left hkl] at hk
        exact hrs k r hk
      · have hk2 : k = rs.length := by
          have := (List.getElem?_eq_some_iff.mp hk).1
          rw [List.length_append] at this
          simp only [List.length_singleton] at this
          omega
        subst hk2
        rw [List.getElem?_append_right (Nat.le_refl _), Nat.sub_self] at hk
        cases hk
        rw [hrl]
        exact ⟨ps, rfl, hpl, hpn⟩
    · rw [gput_same, headL_snoc, List.map_append, hrl]
      rfl
  · rintro vs G1 ⟨rs, u4, u5, u6, u7, rfl, hrl, hrs, hq1, hF1, hB1⟩
    walk_at "sl"
    refine hq rs _ hrl hrs ((hF1.del hpq).mono (by omega)) fun b hb hn => ?_
    have hbq : b ≠ q := fun e => hn (by rw [e]; exact hqn)
    rw [gdel_ne hbq]
    exact hB1 b hb hbq

/-! ### rows and outs at their limits, and beyond -/
section
variable {zs r : List Str} {w : Str} {k t q : Nat}
theorem go_num (h : w ∈ nums99) : rowFaultGo zs (w :: r) k true t q = rowFaultGo zs r (k + 1) false (t + 1) 0 := by
  conv => lhs; unfold rowFaultGo
  rw [if_pos ⟨rfl, h⟩]
theorem go_noNum (h : w ∉ nums99) : rowFaultGo zs (w :: r) k true t q = some (k + 1) := by
  conv => lhs; unfold rowFaultGo
  rw [if_neg (fun e => h e.2), if_neg (fun e => by cases e.1), if_neg (fun e => by cases e.1)]
theorem go_plus (h : t < 6) : rowFaultGo zs (("+" : Str) :: r) k false t q = rowFaultGo zs r (k + 1) true t q := by
  conv => lhs; unfold rowFaultGo
  rw [if_neg (fun e => by cases e.1), if_pos ⟨rfl, rfl, h⟩]
theorem go_name (hz : w ≠ "+") (h : w ∈ zs) (hq : q < 2) : rowFaultGo zs (w :: r) k false t q = rowFaultGo zs r (k + 1) false t (q + 1) := by
  conv => lhs; unfold rowFaultGo
  rw [if_neg (fun e => by cases e.1), if_neg (fun e => hz e.2.1), if_pos ⟨rfl, h, hq⟩]
theorem go_bad (h1 : ¬ (w = "+" ∧ t < 6)) (h2 : ¬ (w ∈ zs ∧ q < 2)) : rowFaultGo zs (w :: r) k false t q = some (k + 1) := by
  conv => lhs; unfold rowFaultGo
  rw [if_neg (fun e => by cases e.1), if_neg (fun e => h1 e.2), if_neg (fun e => h2 e.2)]
theorem go_end : rowFaultGo zs [] k false t q = none := rfl
end
theorem rName_in {n m j : Nat} : rName j ∈ namesOf n m ↔ j < m := by
  constructor
  · intro h
    rcases List.mem_append.mp h with h | h
    · exact absurd rfl (rName_head (k := j) (abcd.2 _ (List.mem_of_mem_take h)).2.1)
    · obtain ⟨i, hi, e⟩ := List.mem_map.mp h
      have := List.mem_range.mp hi
      have := rName_inj e
      omega
  · intro h
    exact List.mem_append_right _ (List.mem_map.mpr ⟨j, List.mem_range.mpr h, rfl⟩)
theorem r0_name : rName 0 = "r0" := by decide +kernel
theorem r0_in {n m : Nat} (h : 0 < m) : ("r0" : Str) ∈ namesOf n m := by rw [← r0_name]; exact rName_in.mpr h
/-- letters of inputs -/
def letter (i : Nat) : Str := ([("a" : Str), "b", "c", "d", "e"]).getD i ""
theorem letter_facts : ∀ i ∈ List.range 5, letter i ∉ [("a" : Str), "b", "c", "d"].take i ∧ (TL.tl (letter i)).head? ≠ some 114 ∧ ((32 : Nat) ∉ TL.tl (letter i) ∧ (10 : Nat) ∉ TL.tl (letter i)) ∧ (letter i).length = 1 := by decide +kernel
theorem letter_no {n m : Nat} (hn : n ≤ 4) : letter n ∉ namesOf n m := by
  have hf := letter_facts n (List.mem_range.mpr (by omega))
  intro h
  rcases List.mem_append.mp h with h | h
  · exact hf.1 h
  · obtain ⟨i, _, e⟩ := List.mem_map.mp h
    exact rName_head (k := i) hf.2.1 e
theorem letter_in {n m i : Nat} (hn : n ≤ 4) (h : i < n) : letter i ∈ namesOf n m := by
  refine List.mem_append_left _ ?_
  have : ∀ n ∈ List.range 5, ∀ i ∈ List.range n, letter i ∈ [("a" : Str), "b", "c", "d"].take n := by decide +kernel
  exact this n (List.mem_range.mpr (by omega)) i (List.mem_range.mpr h)
theorem word_lit {w : Str} (h : ((32 : Nat) ∉ TL.tl w ∧ (10 : Nat) ∉ TL.tl w) ∧ w.length ≤ 41) : Word w ∧ w.length ≤ 41 := ⟨⟨h.1.1, h.1.2⟩, h.2⟩
theorem rName_w {k : Nat} (h : k < 10000) : Word (rName k) ∧ (rName k).length ≤ 41 := ⟨rName_word k, Nat.le_trans (rName_len h) (by decide)⟩
/-- the words of an exact row -/
def exW (m : Nat) (l : List Str) : List Str := rName m :: ("=" : Str) :: ("exact" : Str) :: l
theorem ex_line {m : Nat} {L : Str} {l : List Str} (hm : m < 1000) (hl : l ≠ []) (e : TL.tl L = TL.tl (rName m) ++ ([32, 61, 32, 101, 120, 97, 99, 116, 32] ++ TL.joinL [32] (l.map TL.tl))) (hw : ∀ w ∈ l, Word w ∧ w.length ≤ 41) : LnOk L (exW m l) := by
  refine ⟨TL.ext_tl ?_, by simp [exW], fun w h => ?_⟩
  · rw [e, TL.join_eq, TL.tl_join]
    obtain ⟨a, r, rfl⟩ := List.exists_cons_of_ne_nil hl
    unfold exW
    simp only [List.map_cons, TL.joinL]
    rw [show TL.tl (" " : Str) = [32] from rfl, show TL.tl ("=" : Str) = [61] from rfl, show TL.tl ("exact" : Str) = [101, 120, 97, 99, 116] from rfl]
    simp
  · unfold exW at h
    rcases List.mem_cons.mp h with rfl | h
    · exact rName_w (by omega)
    rcases List.mem_cons.mp h with rfl | h
    · exact word_lit (by decide)
    rcases List.mem_cons.mp h with rfl | h
    · exact word_lit (by decide)
    · exact hw w h
theorem ex_fault {zs l : List Str} {m : Nat} (hl : l.take 1 ≠ [("none" : Str)]) : rowFault zs (exW m l) = rowFaultGo zs l 3 true 0 0 := by
  unfold rowFault exW
  rw [if_neg (by simp), if_neg (by simp), if_neg (by
    rw [show ((rName m :: ("=" : Str) :: ("exact" : Str) :: l).take 4).drop 3 = l.take 1 from by cases l <;> rfl]
    exact hl)]
  rfl
/-- what a text at a limit or beyond it comes to -/
structure Bey (z : Str) (m w more : Nat) : Prop where
  tx : TxOk z
  small : w ≤ 20
  bad : more = 1 → readP z = .error (m + 2, w)
  fine : more = 0 → ∃ x, readP z = .ok x
theorem z_size {n : Nat} {rs : List RwI} {more : List Str} (hn : n ≤ 4) (hm : rs.length ≤ 13) (h : FiveRs n rs) (h2 : more.length ≤ 2) (hy : ∀ y ∈ more, y.length ≤ 13000) : (((headL n rs).map (·.1) ++ more).map (·.length)).sum + ((headL n rs).map (·.1) ++ more).length * ("\n" : Str).length ≤ 16777216 ∧ TxOk (Txt.join "\n" ((headL n rs).map (·.1) ++ more)) := by
  have hb : ∀ y ∈ (headL n rs).map (·.1) ++ more, y.length ≤ 13000 := fun y hm2 => (List.mem_append.mp hm2).elim (fun h3 => (headL_size hn hm h.ok y h3).1) (hy y)
  have h1 : ("\n" : Str).length = 1 := by decide
  have hs := sum_all hb
  have hj := join_le (sep := "\n") hb
  rw [h1, List.length_append, List.length_map, headL_len] at hj
  rw [List.length_append, List.length_map, headL_len] at hs
  rw [h1, List.length_append, List.length_map, headL_len]
  exact ⟨by omega, tx_ok (by omega)⟩
theorem out_line2 : LnOk "out r0" [("out" : Str), "r0"] := by
  refine ⟨TL.ext_tl ?_, by simp, fun w hw => ?_⟩
  · rw [TL.join_eq, TL.tl_join]; rfl
  · simp only [List.mem_cons, List.not_mem_nil, or_false] at hw
    rcases hw with rfl | rfl <;> exact word_lit (by decide)
/-- a row more -/
theorem bey_row {n : Nat} {rs : List RwI} {line : Str} {l : List Str} (hn : n ≤ 4) (hm : 1 ≤ rs.length ∧ rs.length ≤ 11) (h : FiveRs n rs) (hl : LnOk line (exW rs.length l)) (hnone : l.take 1 ≠ [("none" : Str)]) :
    (∀ w, rowFaultGo (namesOf n rs.length) l 3 true 0 0 = some w → readP (Txt.join "\n" ((headL n rs).map (·.1) ++ [line, "out r0"])) = .error (rs.length + 2, w)) ∧ (rowFaultGo (namesOf n rs.length) l 3 true 0 0 = none → ∃ x, readP (Txt.join "\n" ((headL n rs).map (·.1) ++ [line, "out r0"])) = .ok x) := by
  have hmore : ∀ x ∈ [(line, exW rs.length l), (("out r0" : Str), [("out" : Str), "r0"])], LnOk x.1 x.2 := fun x hx => by
    simp only [List.mem_cons, List.not_mem_nil, or_false] at hx
    rcases hx with rfl | rfl
    · exact hl
    · exact out_line2
  obtain ⟨hh, hw⟩ := head_of hn (by omega) h.ok hmore
  have hok : ∀ x ∈ headL n rs ++ [(line, exW rs.length l), (("out r0" : Str), [("out" : Str), "r0"])], LnOk x.1 x.2 := fun x hx => (List.mem_append.mp hx).elim (headL_ok hn (by omega) h.ok x) (hmore x)
  have ez : (headL n rs).map (·.1) ++ [line, "out r0"] = (headL n rs ++ [(line, exW rs.length l), (("out r0" : Str), [("out" : Str), "r0"])]).map (·.1) := by rw [List.map_append]; rfl
  rw [ez]
  unfold readP
  rw [lines_split hok (by simp)]
  have := read_row_line hn (by omega) h.ok hh (hw 0 _ rfl) (by simp [exW]) rfl (hw 1 _ rfl) (lines_none (by rw [List.length_append, headL_len]; simp))
  rw [ex_fault hnone] at this
  exact this
/-- outs -/
theorem bey_out {n : Nat} {rs : List RwI} {line : Str} {l : List Str} (hn : n ≤ 4) (hm : rs.length ≤ 12) (h : FiveRs n rs) (hl : LnOk line (("out" : Str) :: l)) :
    (∀ w, outFault (namesOf n rs.length) (("out" : Str) :: l) = some w → readP (Txt.join "\n" ((headL n rs).map (·.1) ++ [line])) = .error (rs.length + 2, w)) ∧ (outFault (namesOf n rs.length) (("out" : Str) :: l) = none → ∃ x, readP (Txt.join "\n" ((headL n rs).map (·.1) ++ [line])) = .ok x) := by
  have hmore : ∀ x ∈ [(line, ("out" : Str) :: l)], LnOk x.1 x.2 := fun x hx => by rw [List.mem_singleton.mp hx]; exact hl
  obtain ⟨hh, hw⟩ := head_of hn (by omega) h.ok hmore
  have hok : ∀ x ∈ headL n rs ++ [(line, ("out" : Str) :: l)], LnOk x.1 x.2 := fun x hx => (List.mem_append.mp hx).elim (headL_ok hn (by omega) h.ok x) (hmore x)
  have ez : (headL n rs).map (·.1) ++ [line] = (headL n rs ++ [(line, ("out" : Str) :: l)]).map (·.1) := by rw [List.map_append]; rfl
  rw [ez]
  unfold readP
  rw [lines_split hok (by simp)]
  have := read_out hn hm h.ok hh (hw 0 _ rfl) (.inl (fun e => rName_head (w := "out") (by decide) (e.symm.trans (sees_at (by simp)))))
  exact ⟨this.1, fun e => this.2 e (lines_none (by rw [List.length_append, headL_len]; simp))⟩
theorem out_many {zs : List Str} {l : List Str} (h0 : l ≠ []) (h : ∀ w ∈ l, w ∈ zs) : outFault zs (("out" : Str) :: l) = if l.length ≤ 4 then none else some 6 := by
  have hl := List.length_pos_iff.mpr h0
  unfold outFault
  rw [if_neg (by simp), if_neg (by simp only [List.length_cons]; omega)]
  have e : (((List.range ((("out" : Str) :: l).length - 1)).map fun i => 1 + i).filter fun k => decide (4 < k) || !decide ((("out" : Str) :: l).getD k "" ∈ zs)) = ((List.range l.length).map fun i => 1 + i).filter fun k => decide (4 < k) := by
    rw [show (("out" : Str) :: l).length - 1 = l.length by simp]
    refine List.filter_congr fun k hk => ?_
    obtain ⟨i, hi, rfl⟩ := List.mem_map.mp hk
    have hi := List.mem_range.mp hi
    have : (("out" : Str) :: l).getD (1 + i) "" ∈ zs := by
      rw [Nat.add_comm, List.getD_cons_succ]
      exact h _ (getD_mem hi)
    rw [decide_eq_true this]
    simp
  rw [e]
  by_cases h4 : l.length ≤ 4
  · rw [if_pos h4]
    have e2 : (((List.range l.length).map fun i => 1 + i).filter fun k => decide (4 < k)) = [] := by
      rw [List.filter_eq_nil_iff]
      intro k hk
      obtain ⟨i, hi, rfl⟩ := List.mem_map.mp hk
      have hi := List.mem_range.mp hi
      simp; omega
    rw [e2]
  · rw [if_neg h4]
    obtain ⟨d, hd⟩ : ∃ d, l.length = 5 + d := ⟨l.length - 5, by omega⟩
    have e2 : ∃ r, (((List.range l.length).map fun i => 1 + i).filter fun k => decide (4 < k)) = 5 :: r := by
      rw [hd, ← List.range'_eq_map_range, show 5 + d = 4 + (d + 1) by omega, ← List.range'_append_1, List.filter_append, show (List.range' 1 4).filter (fun k => decide (4 < k)) = [] from by decide, List.nil_append, List.range'_succ, List.filter_cons, if_pos (by decide)]
      exact ⟨_, rfl⟩
    obtain ⟨r, e2⟩ := e2
    rw [e2]
theorem out_two {zs : List Str} {a b : Str} (ha : a ∈ zs) (hb : b ∉ zs) : outFault zs [("out" : Str), a, b] = some 3 := by
  unfold outFault
  rw [if_neg (by simp), if_neg (by simp)]
  have e : ((List.range ([("out" : Str), a, b].length - 1)).map fun i => 1 + i) = [1, 2] := rfl
  rw [e, List.filter_cons, if_neg, List.filter_cons, if_pos]
  · show (decide (4 < 2) || !decide (b ∈ zs)) = true
    rw [decide_eq_false hb]; decide
  · show ¬ (decide (4 < 1) || !decide (a ∈ zs)) = true
    rw [decide_eq_true ha]; decide
theorem row_end {n m more w : Nat} {rs : List RwI} {L : Str} {l : List Str} (hn : n ≤ 4) (hm : 1 ≤ m ∧ m ≤ 11) (h : FiveRs n rs) (hrl : rs.length = m) (hl : l ≠ []) (e : TL.tl L = TL.tl (rName m) ++ ([32, 61, 32, 101, 120, 97, 99, 116, 32] ++ TL.joinL [32] (l.map TL.tl))) (hw : ∀ w ∈ l, Word w ∧ w.length ≤ 41) (hnone : l.take 1 ≠ [("none" : Str)]) (hL : L.length ≤ 13000) (hw2 : w ≤ 20) (hbad : more = 1 → rowFaultGo (namesOf n m) l 3 true 0 0 = some w) (hfine : more = 0 → rowFaultGo (namesOf n m) l 3 true 0 0 = none) :
    (((headL n rs).map (·.1) ++ [L, "out r0"]).map (·.length)).sum + ((headL n rs).map (·.1) ++ [L, "out r0"]).length * ("\n" : Str).length ≤ 16777216 ∧ Bey (Txt.join "\n" ((headL n rs).map (·.1) ++ [L, "out r0"])) m w more := by
  have hz := z_size (more := [L, "out r0"]) hn (by omega : rs.length ≤ 13) h (by simp) (fun y hy => by
    simp only [List.mem_cons, List.not_mem_nil, or_false] at hy
    rcases hy with rfl | rfl
    · exact hL
    · decide)
  subst hrl
  have hb := bey_row hn hm h (ex_line (by omega) hl e hw) hnone
  exact ⟨hz.1, hz.2, hw2, fun hm1 => hb.1 w (hbad hm1), fun hm0 => hb.2 (hfine hm0)⟩
theorem out_end {n m more w : Nat} {rs : List RwI} {L : Str} {l : List Str} (hn : n ≤ 4) (hm : m ≤ 12) (h : FiveRs n rs) (hrl : rs.length = m) (e : TL.tl L = TL.joinL [32] (((("out" : Str) :: l)).map TL.tl)) (hw : ∀ w ∈ l, Word w ∧ w.length ≤ 41) (hL : L.length ≤ 13000) (hw2 : w ≤ 20) (hbad : more = 1 → outFault (namesOf n m) (("out" : Str) :: l) = some w) (hfine : more = 0 → outFault (namesOf n m) (("out" : Str) :: l) = none) :
    (((headL n rs).map (·.1) ++ [L]).map (·.length)).sum + ((headL n rs).map (·.1) ++ [L]).length * ("\n" : Str).length ≤ 16777216 ∧ Bey (Txt.join "\n" ((headL n rs).map (·.1) ++ [L])) m w more := by
  have hz := z_size (more := [L]) hn (by omega : rs.length ≤ 13) h (by simp) (fun y hy => by rw [List.mem_singleton.mp hy]; exact hL)
  subst hrl
  have hb := bey_out (line := L) (l := l) hn hm h ⟨TL.ext_tl (by rw [e, TL.join_eq, TL.tl_join]; rfl), by simp, fun w hw' => by
    rcases List.mem_cons.mp hw' with rfl | hw'
    · exact word_lit (by decide)
    · exact hw w hw'⟩
  exact ⟨hz.1, hz.2, hw2, fun hm1 => hb.1 w (hbad hm1), fun hm0 => hb.2 (hfine hm0)⟩
/-- six terms, or one more -/
def sevens (k : Nat) : List Str := ("7" : Str) :: (List.replicate k [("+" : Str), "7"]).flatten
theorem way0 {n m more : Nat} {rs : List RwI} (hn : n ≤ 4) (hm : 1 ≤ m ∧ m ≤ 11) (h : FiveRs n rs) (hrl : rs.length = m) (hmo : more ≤ 1) :
    let L := rName m ++ " = exact " ++ Txt.join " + " (List.replicate (6 + more) ("7" : Str))
    (((headL n rs).map (·.1) ++ [L, "out r0"]).map (·.length)).sum + ((headL n rs).map (·.1) ++ [L, "out r0"]).length * ("\n" : Str).length ≤ 16777216 ∧ Bey (Txt.join "\n" ((headL n rs).map (·.1) ++ [L, "out r0"])) m 15 more := by
  have h7 : ("7" : Str) ∈ nums99 := by decide +kernel
  have l1 := rName_len (k := m) (by omega)
  have l2 : (" = exact " : Str).length = 9 := by decide
  have l7 : ("7" : Str).length = 1 := by decide
  have lp : (" + " : Str).length = 3 := by decide
  have hj := join_le (sep := " + ") (ys := List.replicate (6 + more) ("7" : Str)) (B := 1) (fun y hy => by rw [List.eq_of_mem_replicate hy]; exact Nat.le_of_eq l7)
  rw [List.length_replicate, lp] at hj
  refine row_end (l := sevens (5 + more)) hn hm h hrl (by simp [sevens]) ?_ ?_ ?_ (by rw [PySem.Str.length_append, PySem.Str.length_append]; omega) (by decide) ?_ ?_
  · rw [TL.tl_append, TL.tl_append, TL.join_eq, TL.tl_join, List.append_assoc]
    congr 1
    rcases (by omega : more = 0 ∨ more = 1) with rfl | rfl <;> decide +kernel
  · intro w hw
    unfold sevens at hw
    rcases List.mem_cons.mp hw with rfl | hw
    · exact word_lit (by decide)
    · obtain ⟨p, hp, hw⟩ := List.mem_flatten.mp hw
      rw [List.eq_of_mem_replicate hp] at hw
      simp only [List.mem_cons, List.not_mem_nil, or_false] at hw
      rcases hw with rfl | rfl <;> exact word_lit (by decide)
  · show [("7" : Str)] ≠ _
    decide
  · rintro rfl
    show rowFaultGo _ [("7" : Str), "+", "7", "+", "7", "+", "7", "+", "7", "+", "7", "+", "7"] 3 true 0 0 = _
    rw [go_num h7, go_plus (by decide), go_num h7, go_plus (by decide), go_num h7, go_plus (by decide), go_num h7, go_plus (by decide), go_num h7, go_plus (by decide), go_num h7, go_bad (by decide) (fun e => plus_no _ _ e.1)]
  · rintro rfl
    show rowFaultGo _ [("7" : Str), "+", "7", "+", "7", "+", "7", "+", "7", "+", "7"] 3 true 0 0 = _
    rw [go_num h7, go_plus (by decide), go_num h7, go_plus (by decide), go_num h7, go_plus (by decide), go_num h7, go_plus (by decide), go_num h7, go_plus (by decide), go_num h7, go_end]
theorem way1 {n m more : Nat} {rs : List RwI} (hn : n ≤ 4) (hm : 1 ≤ m ∧ m ≤ 11) (h : FiveRs n rs) (hrl : rs.length = m) (hmo : more ≤ 1) :
    let L := rName m ++ " = exact " ++ "7" ++ repS " r0" (2 + more)
    (((headL n rs).map (·.1) ++ [L, "out r0"]).map (·.length)).sum + ((headL n rs).map (·.1) ++ [L, "out r0"]).length * ("\n" : Str).length ≤ 16777216 ∧ Bey (Txt.join "\n" ((headL n rs).map (·.1) ++ [L, "out r0"])) m 7 more := by
  have h7 : ("7" : Str) ∈ nums99 := by decide +kernel
  have hr0 : ("r0" : Str) ∈ namesOf n m := r0_in hm.1
  have l1 := rName_len (k := m) (by omega)
  have l2 : (" = exact " : Str).length = 9 := by decide
  have l7 : ("7" : Str).length = 1 := by decide
  have lr := repS_len " r0" (2 + more)
  rw [show (" r0" : Str).length = 3 by decide] at lr
  refine row_end (l := ("7" : Str) :: List.replicate (2 + more) ("r0" : Str)) hn hm h hrl (by simp) ?_ ?_ ?_ (by rw [PySem.Str.length_append, PySem.Str.length_append, PySem.Str.length_append]; omega) (by decide) ?_ ?_
  · rw [TL.tl_append, TL.tl_append, TL.tl_append, show TL.tl (repS " r0" (2 + more)) = (List.replicate (2 + more) [32, 114, 48]).flatten from repS_tl _ _, List.append_assoc, List.append_assoc]
    congr 1
    rcases (by omega : more = 0 ∨ more = 1) with rfl | rfl <;> decide +kernel
  · intro w hw
    rcases List.mem_cons.mp hw with rfl | hw
    · exact word_lit (by decide)
    · rw [List.eq_of_mem_replicate hw]; exact word_lit (by decide)
  · show [("7" : Str)] ≠ _
    decide
  · rintro rfl
    show rowFaultGo _ [("7" : Str), "r0", "r0", "r0"] 3 true 0 0 = _
    rw [go_num h7, go_name (by decide) hr0 (by decide), go_name (by decide) hr0 (by decide), go_bad (fun e => absurd e.1 (by decide)) (fun e => absurd e.2 (by decide))]
  · rintro rfl
    show rowFaultGo _ [("7" : Str), "r0", "r0"] 3 true 0 0 = _
    rw [go_num h7, go_name (by decide) hr0 (by decide), go_name (by decide) hr0 (by decide), go_end]
theorem way2 {n m more : Nat} {rs : List RwI} (hn : n ≤ 4) (hm : 1 ≤ m ∧ m ≤ 11) (h : FiveRs n rs) (hrl : rs.length = m) (hmo : more ≤ 1) :
    let L := "out" ++ repS " r0" (4 + more)
    (((headL n rs).map (·.1) ++ [L]).map (·.length)).sum + ((headL n rs).map (·.1) ++ [L]).length * ("\n" : Str).length ≤ 16777216 ∧ Bey (Txt.join "\n" ((headL n rs).map (·.1) ++ [L])) m 6 more := by
  have hr0 : ("r0" : Str) ∈ namesOf n m := r0_in hm.1
  have l2 : ("out" : Str).length = 3 := by decide
  have lr := repS_len " r0" (4 + more)
  rw [show (" r0" : Str).length = 3 by decide] at lr
  have ho := out_many (zs := namesOf n m) (l := List.replicate (4 + more) ("r0" : Str)) (fun e => by have := congrArg List.length e; rw [List.length_replicate] at this; simp at this) (fun w hw => by rw [List.eq_of_mem_replicate hw]; exact hr0)
  rw [List.length_replicate] at ho
  refine out_end (l := List.replicate (4 + more) ("r0" : Str)) hn (by omega) h hrl ?_ ?_ (by rw [PySem.Str.length_append]; omega) (by decide) ?_ ?_
  · rw [TL.tl_append, show TL.tl (repS " r0" (4 + more)) = (List.replicate (4 + more) [32, 114, 48]).flatten from repS_tl _ _]
    rcases (by omega : more = 0 ∨ more = 1) with rfl | rfl <;> decide +kernel
  · intro w hw
    rw [List.eq_of_mem_replicate hw]; exact word_lit (by decide)
  · rintro rfl
    rw [ho, if_neg (by decide)]
  · rintro rfl
    rw [ho, if_pos (by decide)]
theorem way3 {n m more : Nat} {rs : List RwI} {g : Str} (hn : n ≤ 4) (hm : 1 ≤ m ∧ m ≤ 11) (h : FiveRs n rs) (hrl : rs.length = m) (hmo : more ≤ 1) (hg : g = "" ∨ g = "-") :
    let L := rName m ++ " = exact " ++ "1 + " ++ g ++ numT (99 + (more : Int))
    (((headL n rs).map (·.1) ++ [L, "out r0"]).map (·.length)).sum + ((headL n rs).map (·.1) ++ [L, "out r0"]).length * ("\n" : Str).length ≤ 16777216 ∧ Bey (Txt.join "\n" ((headL n rs).map (·.1) ++ [L, "out r0"])) m 6 more := by
  have h1n : ("1" : Str) ∈ nums99 := by decide +kernel
  have l1 := rName_len (k := m) (by omega)
  have l2 : (" = exact " : Str).length = 9 := by decide
  have l3 : ("1 + " : Str).length = 4 := by decide
  have lg : g.length ≤ 1 := by rcases hg with rfl | rfl <;> decide
  have hf : (∀ more ∈ List.range 2, ∀ g ∈ [("" : Str), "-"], (((32 : Nat) ∉ TL.tl (g ++ numT (99 + (more : Int))) ∧ (10 : Nat) ∉ TL.tl (g ++ numT (99 + (more : Int)))) ∧ (g ++ numT (99 + (more : Int))).length ≤ 41) ∧ (numT (99 + (more : Int))).length ≤ 4 ∧ (more = 1 → g ++ numT (99 + (more : Int)) ∉ nums99) ∧ (more = 0 → g ++ numT (99 + (more : Int)) ∈ nums99)) := by decide +kernel
  have hf := hf more (List.mem_range.mpr (by omega)) g (by rcases hg with rfl | rfl <;> simp)
  refine row_end (l := [("1" : Str), "+", g ++ numT (99 + (more : Int))]) hn hm h hrl (by simp) ?_ ?_ ?_ (by rw [PySem.Str.length_append, PySem.Str.length_append, PySem.Str.length_append, PySem.Str.length_append]; have := hf.2.1; omega) (by decide) ?_ ?_
  · simp only [TL.tl_append, List.map_cons, List.map_nil, TL.joinL]
    rw [show TL.tl (" = exact " : Str) = [32, 61, 32, 101, 120, 97, 99, 116, 32] from by decide +kernel, show TL.tl ("1 + " : Str) = [49, 32, 43, 32] from rfl, show TL.tl ("1" : Str) = [49] from rfl, show TL.tl ("+" : Str) = [43] from rfl]
    simp
  · intro w hw
    simp only [List.mem_cons, List.not_mem_nil, or_false] at hw
    rcases hw with rfl | rfl | rfl
    · exact word_lit (by decide)
    · exact word_lit (by decide)
    · exact word_lit hf.1
  · show [("1" : Str)] ≠ _
    decide
  · intro hm1
    rw [go_num h1n, go_plus (by decide), go_noNum (hf.2.2.1 hm1)]
  · intro hm0
    rw [go_num h1n, go_plus (by decide), go_num (hf.2.2.2 hm0), go_end]
theorem way4 {n m more : Nat} {rs : List RwI} {X : Str} (hn : n ≤ 4) (hm : 1 ≤ m ∧ m ≤ 11) (h : FiveRs n rs) (hrl : rs.length = m) (hw : Word X ∧ X.length ≤ 41) (hx : X ≠ "+") (hbad : more = 1 → X ∉ namesOf n m) (hfine : more = 0 → X ∈ namesOf n m) :
    let L := rName m ++ " = exact " ++ "1 r0 " ++ X
    (((headL n rs).map (·.1) ++ [L, "out r0"]).map (·.length)).sum + ((headL n rs).map (·.1) ++ [L, "out r0"]).length * ("\n" : Str).length ≤ 16777216 ∧ Bey (Txt.join "\n" ((headL n rs).map (·.1) ++ [L, "out r0"])) m 6 more := by
  have h1n : ("1" : Str) ∈ nums99 := by decide +kernel
  have hr0 : ("r0" : Str) ∈ namesOf n m := r0_in hm.1
  have l1 := rName_len (k := m) (by omega)
  have l2 : (" = exact " : Str).length = 9 := by decide
  have l3 : ("1 r0 " : Str).length = 5 := by decide
  refine row_end (l := [("1" : Str), "r0", X]) hn hm h hrl (by simp) ?_ ?_ ?_ (by rw [PySem.Str.length_append, PySem.Str.length_append, PySem.Str.length_append]; have := hw.2; omega) (by decide) ?_ ?_
  · simp only [TL.tl_append, List.map_cons, List.map_nil, TL.joinL]
    rw [show TL.tl (" = exact " : Str) = [32, 61, 32, 101, 120, 97, 99, 116, 32] from by decide +kernel, show TL.tl ("1 r0 " : Str) = [49, 32, 114, 48, 32] from rfl, show TL.tl ("1" : Str) = [49] from rfl, show TL.tl ("r0" : Str) = [114, 48] from rfl]
    simp
  · intro w hw'
    simp only [List.mem_cons, List.not_mem_nil, or_false] at hw'
    rcases hw' with rfl | rfl | rfl
    · exact word_lit (by decide)
    · exact word_lit (by decide)
    · exact hw
  · show [("1" : Str)] ≠ _
    decide
  · intro hm1
    rw [go_num h1n, go_name (by decide) hr0 (by decide), go_bad (fun e => hx e.1) (fun e => hbad hm1 e.1)]
  · intro hm0
    rw [go_num h1n, go_name (by decide) hr0 (by decide), go_name hx (hfine hm0) (by decide), go_end]
theorem way5 {n m more : Nat} {rs : List RwI} {X : Str} (hn : n ≤ 4) (hm : 1 ≤ m ∧ m ≤ 11) (h : FiveRs n rs) (hrl : rs.length = m) (hw : Word X ∧ X.length ≤ 41) (hx : X ≠ "+") (hbad : more = 1 → X ∉ namesOf n m) (hfine : more = 0 → X ∈ namesOf n m) :
    let L := rName m ++ " = exact " ++ "1 " ++ X
    (((headL n rs).map (·.1) ++ [L, "out r0"]).map (·.length)).sum + ((headL n rs).map (·.1) ++ [L, "out r0"]).length * ("\n" : Str).length ≤ 16777216 ∧ Bey (Txt.join "\n" ((headL n rs).map (·.1) ++ [L, "out r0"])) m 5 more := by
  have h1n : ("1" : Str) ∈ nums99 := by decide +kernel
  have l1 := rName_len (k := m) (by omega)
  have l2 : (" = exact " : Str).length = 9 := by decide
  have l3 : ("1 " : Str).length = 2 := by decide
  refine row_end (l := [("1" : Str), X]) hn hm h hrl (by simp) ?_ ?_ ?_ (by rw [PySem.Str.length_append, PySem.Str.length_append, PySem.Str.length_append]; have := hw.2; omega) (by decide) ?_ ?_
  · simp only [TL.tl_append, List.map_cons, List.map_nil, TL.joinL]
    rw [show TL.tl (" = exact " : Str) = [32, 61, 32, 101, 120, 97, 99, 116, 32] from by decide +kernel, show TL.tl ("1 " : Str) = [49, 32] from rfl, show TL.tl ("1" : Str) = [49] from rfl]
    simp
  · intro w hw'
    simp only [List.mem_cons, List.not_mem_nil, or_false] at hw'
    rcases hw' with rfl | rfl
    · exact word_lit (by decide)
    · exact hw
  · show [("1" : Str)] ≠ _
    decide
  · intro hm1
    rw [go_num h1n, go_bad (fun e => hx e.1) (fun e => hbad hm1 e.1)]
  · intro hm0
    rw [go_num h1n, go_name hx (hfine hm0) (by decide), go_end]
theorem way6 {n m more : Nat} {rs : List RwI} {X : Str} (hn : n ≤ 4) (hm : 1 ≤ m ∧ m ≤ 12) (h : FiveRs n rs) (hrl : rs.length = m) (hw : Word X ∧ X.length ≤ 41) (hbad : more = 1 → X ∉ namesOf n m) (hfine : more = 0 → X ∈ namesOf n m) :
    let L := "out r0 " ++ X
    (((headL n rs).map (·.1) ++ [L]).map (·.length)).sum + ((headL n rs).map (·.1) ++ [L]).length * ("\n" : Str).length ≤ 16777216 ∧ Bey (Txt.join "\n" ((headL n rs).map (·.1) ++ [L])) m 3 more := by
  have hr0 : ("r0" : Str) ∈ namesOf n m := r0_in hm.1
  have l2 : ("out r0 " : Str).length = 7 := by decide
  refine out_end (l := [("r0" : Str), X]) hn (by omega) h hrl ?_ ?_ (by rw [PySem.Str.length_append]; have := hw.2; omega) (by decide) ?_ ?_
  · simp only [TL.tl_append, List.map_cons, List.map_nil, TL.joinL]
    rw [show TL.tl ("out r0 " : Str) = [111, 117, 116, 32, 114, 48, 32] from by decide +kernel, show TL.tl ("out" : Str) = [111, 117, 116] from rfl, show TL.tl ("r0" : Str) = [114, 48] from rfl]
    simp
  · intro w hw'
    simp only [List.mem_cons, List.not_mem_nil, or_false] at hw'
    rcases hw' with rfl | rfl
    · exact word_lit (by decide)
    · exact hw
  · intro hm1
    exact out_two hr0 (hbad hm1)
  · intro hm0
    rw [out_many (by simp) (fun w hw' => by
      simp only [List.mem_cons, List.not_mem_nil, or_false] at hw'
      rcases hw' with rfl | rfl
      · exact hr0
      · exact hfine hm0), if_pos (by simp)]
/-! ### thirteen rows -/
theorem headL_take (n : Nat) (rs : List RwI) (k : Nat) : (headL n rs).take (k + 1) = headL n (rs.take k) := by
  unfold headL
  rw [List.take_succ_cons, ← List.map_take, List.take_range, List.length_take]
  congr 1
  refine List.map_congr_left fun i hi => ?_
  have hi := List.mem_range.mp hi
  have e : (rs.take k).getD i (false, []) = rs.getD i (false, []) := by rw [List.getD_eq_getElem?_getD, List.getD_eq_getElem?_getD, List.getElem?_take_of_lt (by omega)]
  rw [e]
theorem FiveRs.take {n : Nat} {rs : List RwI} (h : FiveRs n rs) (k : Nat) : FiveRs n (rs.take k) := fun i r hr => by
  have hi := (List.getElem?_eq_some_iff.mp hr).1
  rw [List.length_take] at hi
  rw [List.getElem?_take_of_lt (by omega)] at hr
  exact h i r hr
theorem twelve {rs : List RwI} (h : FiveRs 0 rs) (hrl : rs.length = 12) :
    (((headL 0 rs).map (·.1) ++ [("out r11" : Str)]).map (·.length)).sum + ((headL 0 rs).map (·.1) ++ [("out r11" : Str)]).length * ("\n" : Str).length ≤ 16777216 ∧ Bey (Txt.join "\n" ((headL 0 rs).map (·.1) ++ [("out r11" : Str)])) 12 0 0 := by
  have h11 : rName 11 = "r11" := by decide +kernel
  refine out_end (l := [("r11" : Str)]) (by decide) (Nat.le_refl _) h hrl (by decide +kernel) ?_ (by decide) (by decide) (fun h => absurd h (by decide)) fun _ => ?_
  · intro w hw
    rw [List.mem_singleton.mp hw]; exact word_lit (by decide)
  · rw [out_many (by simp) (fun w hw => by rw [List.mem_singleton.mp hw, ← h11]; exact rName_in.mpr (by decide)), if_pos (by simp)]
theorem thirteen {rs : List RwI} (h : FiveRs 0 rs) (hrl : rs.length = 13) :
    (((headL 0 rs).map (·.1) ++ [("out r0" : Str)]).map (·.length)).sum + ((headL 0 rs).map (·.1) ++ [("out r0" : Str)]).length * ("\n" : Str).length ≤ 16777216 ∧ TxOk (Txt.join "\n" ((headL 0 rs).map (·.1) ++ [("out r0" : Str)])) ∧ readP (Txt.join "\n" ((headL 0 rs).map (·.1) ++ [("out r0" : Str)])) = .error (14, 1) := by
  have hz := z_size (more := [("out r0" : Str)]) (by decide : 0 ≤ 4) (by omega : rs.length ≤ 13) h (by simp) (fun y hy => by rw [List.mem_singleton.mp hy]; decide)
  refine ⟨hz.1, hz.2, ?_⟩
  have hmore : ∀ x ∈ [(("out r0" : Str), [("out" : Str), "r0"])], LnOk x.1 x.2 := fun x hx => by rw [List.mem_singleton.mp hx]; exact out_line2
  obtain ⟨hh, hw⟩ := head_of (by decide : 0 ≤ 4) (by omega) h.ok hmore
  have hok : ∀ x ∈ headL 0 rs ++ [(("out r0" : Str), [("out" : Str), "r0"])], LnOk x.1 x.2 := fun x hx => (List.mem_append.mp hx).elim (headL_ok (by decide) (by omega) h.ok x) (hmore x)
  have ez : (headL 0 rs).map (·.1) ++ [("out r0" : Str)] = (headL 0 rs ++ [(("out r0" : Str), [("out" : Str), "r0"])]).map (·.1) := by rw [List.map_append]; rfl
  rw [ez]
  unfold readP
  rw [lines_split hok (by simp)]
  have hl12 : (rs.take 12).length = 12 := by rw [List.length_take]; omega
  have hh2 : HeadOf ((headL 0 rs ++ [(("out r0" : Str), [("out" : Str), "r0"])]).map (·.1)) 0 (rs.take 12) := ⟨hh.inp, fun k r hr => by
    have hi := (List.getElem?_eq_some_iff.mp hr).1
    rw [hl12] at hi
    rw [List.getElem?_take_of_lt hi] at hr
    exact hh.rows k r hr⟩
  have hr12 : rs[12]? = some rs[12] := List.getElem?_eq_getElem (by omega)
  have hO := hh.rows 12 _ hr12
  have := (read_out (by decide) (by omega) (h.take 12).ok hh2 (O := lineW (namesOf 0 12) 12 rs[12]) (by rw [hl12]; exact hO) (.inr (by omega))).1 1 (by
    unfold outFault
    rw [if_pos]
    intro e
    exact rName_head (k := 12) (w := "out") (by decide) (List.cons.inj e).1)
  rw [this, hl12]
theorem in_five : readP "in 5\nout a" = .error (1, 2) ∧ TxOk "in 5\nout a" := by
  refine ⟨?_, tx_ok (by decide)⟩
  have h : (match readP "in 5\nout a" with | .error e => decide (e = (1, 2)) | .ok _ => false) = true := by decide +kernel
  revert h
  cases readP "in 5\nout a" with
  | error e => intro h; rw [of_decide_eq_true h]
  | ok x => intro h; cases h

theorem rpr_place {l w : Nat} (h1 : l ≤ 20) (h2 : w ≤ 300000) : Rpr 64 100 (.tup [.str "bad", .tup [dN l, dN w]]) := by
  refine ⟨?_, ?_, ?_⟩
  · rw [gd_tup]
    simp only [gds, gd_tup, gd]
    decide +kernel
  · simp only [sm, sms, Int.natAbs_natCast]
    refine ⟨trivial, ⟨by omega, by omega, trivial⟩, trivial⟩
  · have : ("bad" : Str).cps.size = 3 := by decide
    simp only [D.bulk, bulks]
    omega
theorem rpr_both : Rpr 64 300 (.lst [.tup [.str "bad", .tup [dN 14, dN 1]], .tup [.str "bad", .tup [dN 1, dN 2]]]) := by
  refine ⟨?_, ?_, ?_⟩
  · rw [gd_lst]
    simp only [gds, gd_tup, gd]
    decide +kernel
  · simp only [sm, sms, Int.natAbs_natCast]
    decide
  · have : ("bad" : Str).cps.size = 3 := by decide
    simp only [D.bulk, bulks]
    omega
def N_law_beyond : List Str := ["_law_feed_here", "_law_inputs", "_law_count", "_law_way", "_law_more", "_law_row", "_law_name", "_law_lines_here", "_law_last", "_law_found", "_law_sign", "_law_names"]
abbrev t_law_beyond_1 : TSD := (dRet (dTup (dCons (dBM tyS mJoin (dC (.str "\n")) (dCons (dVar 9) dNil)) (dCons (dTup (dCons (dOp aAny (dVar 2) (dC (.int 2))) (dCons (dC (.int 15)) dNil))) dNil))))
abbrev t_law_beyond_2 : TSD := (dSeq (dAsg (dOp aAny (dVar 7) (dLst (dCons (dOp aAny (dVar 5) (dBM tyS mJoin (dC (.str " + ")) (dCons (dOp mAny (dLst (dCons (dC (.str "7")) dNil)) (dOp aAny (dC (.int 6)) (dVar 4))) dNil))) (dCons (dVar 8) dNil)))) (gdName 9))
  t_law_beyond_1)
abbrev t_law_beyond_3 : TSD := (dRet (dTup (dCons (dBM tyS mJoin (dC (.str "\n")) (dCons (dVar 9) dNil)) (dCons (dTup (dCons (dOp aAny (dVar 2) (dC (.int 2))) (dCons (dC (.int 7)) dNil))) dNil))))
abbrev t_law_beyond_4 : TSD := (dSeq (dAsg (dOp aAny (dVar 7) (dLst (dCons (dOp aAny (dOp aAny (dVar 5) (dC (.str "7"))) (dOp mStr (dC (.str " r0")) (dOp aAny (dC (.int 2)) (dVar 4)))) (dCons (dVar 8) dNil)))) (gdName 9))
  t_law_beyond_3)
abbrev t_law_beyond_5 : TSD := (dRet (dTup (dCons (dBM tyS mJoin (dC (.str "\n")) (dCons (dOp aAny (dVar 7) (dLst (dCons (dOp aAny (dC (.str "out")) (dOp mStr (dC (.str " r0")) (dOp aAny (dC (.int 4)) (dVar 4)))) dNil))) dNil)) (dCons (dTup (dCons (dOp aAny (dVar 2) (dC (.int 2))) (dCons (dC (.int 6)) dNil))) dNil))))
abbrev t_law_beyond_6 : TSD := (dRet (dTup (dCons (dBM tyS mJoin (dC (.str "\n")) (dCons (dOp aAny (dVar 7) (dLst (dCons (dOp aAny (dOp aAny (dOp aAny (dVar 5) (dC (.str "1 + "))) (dVar 10)) (dCB kStr (dCons (dOp aAny (dC (.int 99)) (dVar 4)) dNil))) (dCons (dVar 8) dNil)))) dNil)) (dCons (dTup (dCons (dOp aAny (dVar 2) (dC (.int 2))) (dCons (dC (.int 6)) dNil))) dNil))))
abbrev t_law_beyond_7 : TSD := (dRet (dTup (dCons (dBM tyS mJoin (dC (.str "\n")) (dCons (dOp aAny (dVar 7) (dLst (dCons (dOp aAny (dOp aAny (dVar 5) (dC (.str "1 r0 "))) (dOp xAny (dVar 11) (dC (.int 0)))) (dCons (dVar 8) dNil)))) dNil)) (dCons (dTup (dCons (dOp aAny (dVar 2) (dC (.int 2))) (dCons (dC (.int 6)) dNil))) dNil))))
abbrev t_law_beyond_8 : TSD := (dSeq (dAsg (dIf (dTest (dOp (eAny false) (dVar 4) (dC (.int 0)))) (dSl (dSl (dOp aAny (dSl (dLst (dCons (dC (.str "a")) (dCons (dC (.str "b")) (dCons (dC (.str "c")) (dCons (dC (.str "d")) (dCons (dC (.str "e")) dNil)))))) dNoPart (dPart (dVar 1))) (dLst (dCons (dC (.str "r0")) dNil))) (dPart (dOp aSub (dVar 1) (dC (.int 1)))) dNoPart) dNoPart (dPart (dC (.int 1)))) (dLst (dCons (dOp xAny (dC (.str "abcde")) (dVar 1)) dNil))) (gdName 11))
  t_law_beyond_7)
abbrev t_law_beyond_9 : TSD := (dRet (dTup (dCons (dBM tyS mJoin (dC (.str "\n")) (dCons (dOp aAny (dVar 7) (dLst (dCons (dOp aAny (dOp aAny (dVar 5) (dC (.str "1 "))) (dVar 6)) (dCons (dVar 8) dNil)))) dNil)) (dCons (dTup (dCons (dOp aAny (dVar 2) (dC (.int 2))) (dCons (dC (.int 5)) dNil))) dNil))))
abbrev t_law_beyond_10 : TSD := (dSeq (dAsg (dOp aAny (dC (.str "r")) (dCB kStr (dCons (dOp aAny (dOp aSub (dVar 2) (dC (.int 1))) (dOp mAny (dVar 4) (dOp aAny (dC (.int 1)) (dCall sp_law_draw (dCons (dVar 0) (dCons (dC (.int 3)) dNil)))))) dNil))) (gdName 6))
  t_law_beyond_9)
abbrev t_law_beyond_11 : TSD := (dRet (dTup (dCons (dBM tyS mJoin (dC (.str "\n")) (dCons (dOp aAny (dVar 7) (dLst (dCons (dOp aAny (dC (.str "out r0 ")) (dVar 6)) dNil))) dNil)) (dCons (dTup (dCons (dOp aAny (dVar 2) (dC (.int 2))) (dCons (dC (.int 3)) dNil))) dNil))))
abbrev t_law_beyond_12 : TSD := (dSeq (dIfS (dTest (dOp (eAny false) (dVar 3) (dC (.int 5))))
  t_law_beyond_10
  dNext)
  (dSeq (dAsg (dOp aAny (dC (.str "r")) (dCB kStr (dCons (dOp aAny (dOp aSub (dVar 2) (dC (.int 1))) (dVar 4)) dNil))) (gdName 6))
  t_law_beyond_11))
abbrev t_law_beyond_13 : TSD := (dSeq (dIfS (dTest (dOp (eAny false) (dVar 3) (dC (.int 3))))
  (dSeq (dAsg (dCall sp_law_one (dCons (dVar 0) (dCons (dLst (dCons (dC (.str "")) (dCons (dC (.str "-")) dNil))) dNil))) (gdName 10))
  t_law_beyond_6)
  dNext)
  (dSeq (dIfS (dTest (dOp (eAny false) (dVar 3) (dC (.int 4))))
  t_law_beyond_8
  dNext)
  t_law_beyond_12))
abbrev t_law_beyond_14 : TSD := (dSeq (dIfS (dTest (dOp (eAny false) (dVar 3) (dC (.int 1))))
  t_law_beyond_4
  dNext)
  (dSeq (dIfS (dTest (dOp (eAny false) (dVar 3) (dC (.int 2))))
  t_law_beyond_5
  dNext)
  t_law_beyond_13))
abbrev t_law_beyond_15 : TSD := (dSeq (dAsg (dOp aAny (dOp aAny (dC (.str "r")) (dCB kStr (dCons (dVar 2) dNil))) (dC (.str " = exact "))) (gdName 5))
  (dSeq (dIfS (dTest (dOp (eAny false) (dVar 3) (dC (.int 0))))
  t_law_beyond_2
  dNext)
  t_law_beyond_14))
def t_law_beyond : TSD := (dSeq (dPar 7 8 (dCons (dCall sp_law_lines (dCons (dVar 0) (dCons (dVar 1) (dCons (dVar 2) dNil)))) (dCons (dC (.str "out r0")) dNil)))
  t_law_beyond_15)
def sp_law_beyond : SpD := fun ds G Q _ => ∃ (p : Addr) (n m way more N : Nat), ds = [.ref p, dN n, dN m, dN way, dN more] ∧ Feed G p N ∧ N ≤ 2 ^ 27 ∧ n ≤ 4 ∧ 1 ≤ m ∧ m ≤ 11 ∧ way ≤ 6 ∧ more ≤ 1 ∧ ∀ (z : Str) (w : Nat) G', Bey z m w more → Feed G' p (N + 200) → Bk p G G' → Q (.tup [.str z, .tup [dN (m + 2), dN w]]) G'
theorem len_law_beyond : LN sp_law_beyond 5 := by rintro ds G Q E ⟨p, n, m, way, more, N, rfl, _⟩; rfl
theorem vc_law_beyond : VC sp_law_beyond N_law_beyond t_law_beyond := by
  rintro ds G Q EX ⟨p, n, m, way, more, N, rfl, hF, hN, hn, hm1, hm2, hway, hmore, hq⟩
  have hsz : sizeLine = 16777216 := sizeLine_eq
  walk_at "go law_beyond"
  refine ⟨p, n, m, N, rfl, hF, by omega, hn, by omega, fun rs G1 hrl hrs hF1 hB1 => ?_⟩
  walk_at "d"
  refine st_strI (log_small (by omega)) ?_
  have hrl2 := num_len (k := m) (by omega)
  refine st_addSl (x := "r") (by rw [show ("r" : Str).length = 1 by decide]; exact Nat.le_trans (Nat.add_le_add_left hrl2 1) (by decide)) ?_
  rw [show ("r" : Str) ++ Str.ofString (toString (m : Int)) = rName m from rfl]
  have l1 := rName_len (k := m) (by omega)
  have l2 : (" = exact " : Str).length = 9 := by decide
  walk_at "d"
  refine st_addSl (by omega) ?_
  have l3 : (rName m ++ " = exact ").length ≤ 14 := by rw [PySem.Str.length_append]; omega
  walk_at "d"
  have fin : ∀ (z : Str) (w : Nat) (G2 : HH), Bey z m w more → Feed G2 p (N + 200) → Bk p G G2 → Q (.tup [.str z, .tup [.int ((m : Int) + 2), dN w]]) G2 := fun z w G2 hz hF2 hB2 => by
    have := hq z w G2 hz hF2 hB2
    rw [show dN (m + 2) = D.int ((m : Int) + 2) from congrArg D.int (by omega)] at this
    exact this
  have hhl : ((headL n rs).map (·.1)).length = m + 1 := by rw [List.length_map, headL_len, hrl]
  have w0 := way0 hn ⟨hm1, hm2⟩ hrs hrl hmore
  have w1 := way1 hn ⟨hm1, hm2⟩ hrs hrl hmore
  have w2 := way2 hn ⟨hm1, hm2⟩ hrs hrl hmore
  have w3 := fun (g : Str) => way3 (g := g) hn ⟨hm1, hm2⟩ hrs hrl hmore
  have w4 := fun (X : Str) => way4 (more := more) (X := X) hn ⟨hm1, hm2⟩ hrs hrl
  have w5 := fun (X : Str) => way5 (more := more) (X := X) hn ⟨hm1, hm2⟩ hrs hrl
  have w6 := fun (X : Str) => way6 (more := more) (X := X) hn ⟨hm1, by omega⟩ hrs hrl
  dsimp only at w0 w1 w2 w3 w4 w5 w6
  generalize (headL n rs).map (·.1) = hs at *
  have e2 : ∀ L : Str, hs.map D.str ++ [D.str L, D.str "out r0"] = (hs ++ [L, "out r0"]).map D.str := fun L => by rw [List.map_append]; rfl
  have e1 : ∀ L : Str, hs.map D.str ++ [D.str L] = (hs ++ [L]).map D.str := fun L => by rw [List.map_append]; rfl
  have hF1' : Feed G1 p (N + 200) := hF1.mono (by omega)
  rcases (by omega : way = 0 ∨ way = 1 ∨ way = 2 ∨ way = 3 ∨ way = 4 ∨ way = 5 ∨ way = 6) with rfl | rfl | rfl | rfl | rfl | rfl | rfl
  · walk_at "d"
    refine .inr (.inl ⟨_, _, .lst _, rfl, by omega, by omega, by rw [hsz]; simp only [List.length_singleton]; omega, ?_⟩)
    rw [show ((6 : Int) + (more : Int)).toNat = 6 + more by omega, show (List.replicate (6 + more) [D.str "7"]).flatten = (List.replicate (6 + more) ("7" : Str)).map D.str from by rw [List.map_replicate, List.flatten_replicate_singleton]]
    walk_at "d"
    have l7 : ("7" : Str).length = 1 := by decide
    have lp : (" + " : Str).length = 3 := by decide
    have hj := join_le (sep := " + ") (ys := List.replicate (6 + more) ("7" : Str)) (B := 1) (fun y hy => by rw [List.eq_of_mem_replicate hy]; exact Nat.le_of_eq l7)
    rw [List.length_replicate, lp] at hj
    refine st_join' (.lst _) (by rw [List.map_replicate, List.sum_replicate_nat, List.length_replicate, l7, lp]; omega) ?_
    walk_at "d"
    refine st_addSl (by omega) ?_
    walk_at "d"
    rw [e2]
    refine st_join' (.lst _) w0.1 ?_
    walk_at "d"
    exact fin _ 15 _ w0.2 hF1' hB1
  · walk_at "d"
    have l7 : ("7" : Str).length = 1 := by decide
    have lr0 : (" r0" : Str).length = 3 := by decide
    have lr := repS_len " r0" (2 + more)
    rw [lr0] at lr
    refine st_addSl (by omega) ?_
    walk_at "d"
    refine st_repS ⟨by omega, by omega⟩ (by decide) (by rw [lr0, hsz]; omega) ?_
    rw [show ((2 : Int) + (more : Int)).toNat = 2 + more by omega]
    walk_at "d"
    refine st_addSl (by rw [PySem.Str.length_append]; omega) ?_
    walk_at "d"
    rw [e2]
    refine st_join' (.lst _) w1.1 ?_
    walk_at "d"
    exact fin _ 7 _ w1.2 hF1' hB1
  · walk_at "d"
    have lo : ("out" : Str).length = 3 := by decide
    have lr0 : (" r0" : Str).length = 3 := by decide
    have lr := repS_len " r0" (4 + more)
    rw [lr0] at lr
    refine st_repS ⟨by omega, by omega⟩ (by decide) (by rw [lr0, hsz]; omega) ?_
    rw [show ((4 : Int) + (more : Int)).toNat = 4 + more by omega]
    walk_at "d"
    refine st_addSl (by omega) ?_
    walk_at "d"
    rw [e1]
    refine st_join' (.lst _) w2.1 ?_
    walk_at "d"
    exact fin _ 6 _ w2.2 hF1' hB1
  · walk_at "d"
    refine st_oneM (c := D.str) (l := ["", "-"]) hF1 (by omega) ⟨by simp, by simp⟩ fun g G2 hg hF2 hB2 => ?_
    have hg : g = "" ∨ g = "-" := by simpa using hg
    have lg : g.length ≤ 1 := by rcases hg with rfl | rfl <;> decide
    have w3 := w3 g hg
    have l4 : ("1 + " : Str).length = 4 := by decide
    walk_at "d"
    refine st_addSl (by omega) ?_
    walk_at "d"
    refine st_addSl (by rw [PySem.Str.length_append]; omega) ?_
    walk_at "d"
    refine st_strI (log40 (Nat.lt_of_lt_of_le (show ((99 : Int) + (more : Int)).natAbs < 300 by omega) (by decide))) ?_
    rw [show Str.ofString (toString ((99 : Int) + (more : Int))) = numT (99 + (more : Int)) from rfl]
    have ln := numT_len (i := 99 + (more : Int)) (Nat.lt_of_lt_of_le (show ((99 : Int) + (more : Int)).natAbs < 300 by omega) (by decide))
    walk_at "d"
    refine st_addSl (by rw [PySem.Str.length_append, PySem.Str.length_append]; omega) ?_
    walk_at "d"
    rw [e2]
    refine st_join' (.lst _) w3.1 ?_
    walk_at "d"
    exact fin _ 6 _ w3.2 (hF2.mono (by omega)) (hB1.trans (fun b hb _ => hB2 b hb))
  · walk_at "d"
    have hml : more = 0 ∨ more = 1 := by omega
    rcases hml with rfl | rfl
    · walk_at "d"
      have hcut : dcut [D.str "a", D.str "b", D.str "c", D.str "d", D.str "e"] none (some (n : Int)) = (([("a" : Str), "b", "c", "d", "e"]).take n).map D.str := (dcut_take _ n).trans (by rw [List.map_take]; rfl)
      rw [hcut]
      refine st_addLm (c := D.str) (b := [("r0" : Str)]) (by rw [List.length_take, hsz]; simp only [List.length_cons, List.length_nil]; omega) ?_
      walk_at "d"
      obtain ⟨X, hX, hXw, hXp, hXi⟩ : ∃ X : Str, dcut (dcut (((([("a" : Str), "b", "c", "d", "e"]).take n) ++ [("r0" : Str)]).map D.str) (some ((n : Int) - 1)) none) none (some 1) = [D.str X] ∧ (Word X ∧ X.length ≤ 41) ∧ X ≠ "+" ∧ X ∈ namesOf n m := by
        by_cases h0 : n = 0
        · subst h0
          exact ⟨"r0", rfl, word_lit (by decide), by decide, r0_in hm1⟩
        · refine ⟨letter (n - 1), ?_, word_lit ⟨(letter_facts (n - 1) (List.mem_range.mpr (by omega))).2.2.1, by rw [(letter_facts (n - 1) (List.mem_range.mpr (by omega))).2.2.2]; decide⟩, ?_, letter_in hn (by omega)⟩
          · rcases (by omega : n = 1 ∨ n = 2 ∨ n = 3 ∨ n = 4) with rfl | rfl | rfl | rfl <;> rfl
          · rcases (by omega : n = 1 ∨ n = 2 ∨ n = 3 ∨ n = 4) with rfl | rfl | rfl | rfl <;> decide
      have w4 := w4 X hXw hXp (fun h => absurd h (by decide)) (fun _ => hXi)
      rw [hX]
      have l4 : ("1 r0 " : Str).length = 5 := by decide
      refine st_addSl (by omega) ?_
      walk_at "d"
      refine st_addSl (by rw [PySem.Str.length_append]; have := hXw.2; omega) ?_
      walk_at "d"
      rw [e2]
      refine st_join' (.lst _) w4.1 ?_
      walk_at "d"
      exact fin _ 6 _ w4.2 hF1' hB1
    · walk_at "d"
      have hlf := letter_facts n (List.mem_range.mpr (by omega))
      have w4 := w4 (letter n) (word_lit ⟨hlf.2.2.1, by rw [hlf.2.2.2]; decide⟩) (by rcases (by omega : n = 0 ∨ n = 1 ∨ n = 2 ∨ n = 3 ∨ n = 4) with rfl | rfl | rfl | rfl | rfl <;> decide) (fun _ => letter_no hn) (fun h => absurd h (by decide))
      obtain ⟨c, hc, hcl⟩ : ∃ c, atI ("abcde" : Str).cps.toList (n : Int) = some c ∧ (⟨#[c]⟩ : Str) = letter n := by
        rcases (by omega : n = 0 ∨ n = 1 ∨ n = 2 ∨ n = 3 ∨ n = 4) with rfl | rfl | rfl | rfl | rfl <;> exact ⟨_, rfl, rfl⟩
      refine .inr ⟨_, _, c, rfl, rfl, by rw [hsz]; decide, hc, ?_⟩
      rw [hcl]
      walk_at "d"
      have l4 : ("1 r0 " : Str).length = 5 := by decide
      refine st_addSl (by omega) ?_
      walk_at "d"
      refine st_addSl (by rw [PySem.Str.length_append]; have := hlf.2.2.2; omega) ?_
      walk_at "d"
      rw [e2]
      refine st_join' (.lst _) w4.1 ?_
      walk_at "d"
      exact fin _ 6 _ w4.2 hF1' hB1
  · walk_at "d"
    refine st_draw hF1 (by omega) (by decide) (by decide) fun d G2 hd hF2 hB2 => ?_
    have hmul : CMulX (more : Int) (1 + (d : Int)) := mulW64 (by omega) (by omega)
    walk_at "d"
    obtain ⟨j, ej, hj1, hj2, hj3⟩ : ∃ j : Nat, (m : Int) - 1 + (more : Int) * (1 + (d : Int)) = (j : Int) ∧ j ≤ 20 ∧ (more = 1 → m ≤ j) ∧ (more = 0 → j < m) := by
      rcases (by omega : more = 0 ∨ more = 1) with rfl | rfl
      · exact ⟨m - 1, by omega, by omega, fun h => absurd h (by decide), fun _ => by omega⟩
      · exact ⟨m + d, by omega, by omega, fun _ => by omega, fun h => absurd h (by decide)⟩
    rw [ej]
    refine st_strI (log_small (by omega)) ?_
    have hnl := num_len (k := j) (by omega)
    refine st_addSl (x := "r") (by rw [show ("r" : Str).length = 1 by decide]; exact Nat.le_trans (Nat.add_le_add_left hnl 1) (by decide)) ?_
    rw [show ("r" : Str) ++ Str.ofString (toString (j : Int)) = rName j from rfl]
    have w5 := w5 (rName j) (rName_w (by omega)) (rName_head (by decide)) (fun h e => by have := rName_in.mp e; have := hj2 h; omega) (fun h => rName_in.mpr (hj3 h))
    have lo : ("1 " : Str).length = 2 := by decide
    have ln := rName_len (k := j) (by omega)
    walk_at "d"
    refine st_addSl (by omega) ?_
    walk_at "d"
    refine st_addSl (by rw [PySem.Str.length_append]; omega) ?_
    walk_at "d"
    rw [e2]
    refine st_join' (.lst _) w5.1 ?_
    walk_at "d"
    exact fin _ 5 _ w5.2 (hF2.mono (by omega)) (hB1.trans (fun b hb _ => hB2 b hb))
  · walk_at "d"
    rw [show (m : Int) - 1 + (more : Int) = ((m - 1 + more : Nat) : Int) by omega]
    refine st_strI (log_small (by omega)) ?_
    have hnl := num_len (k := m - 1 + more) (by omega)
    refine st_addSl (x := "r") (by rw [show ("r" : Str).length = 1 by decide]; exact Nat.le_trans (Nat.add_le_add_left hnl 1) (by decide)) ?_
    rw [show ("r" : Str) ++ Str.ofString (toString ((m - 1 + more : Nat) : Int)) = rName (m - 1 + more) from rfl]
    have w6 := w6 (rName (m - 1 + more)) (rName_w (by omega)) (fun h e => by have := rName_in.mp e; omega) (fun h => rName_in.mpr (by omega))
    have lo : ("out r0 " : Str).length = 7 := by decide
    have ln := rName_len (k := m - 1 + more) (by omega)
    walk_at "d"
    refine st_addSl (by omega) ?_
    walk_at "d"
    rw [e1]
    refine st_join' (.lst _) w6.1 ?_
    walk_at "d"
    exact fin _ 3 _ w6.2 hF1' hB1
abbrev sp_law : SpD := spLaw 63
theorem len_law : LN sp_law 1 := by rintro ds G Q E ⟨n, rfl, _⟩; rfl
theorem Feed.kp {G G' : HH} {p : Addr} {N : Nat} (h : Feed G p N) (k : Kp G G') : Feed G' p N := h.at (k p h.some)
def N_law : List Str := ["_law_script", "_law_feed_here", "_law_turn", "_law_rows", "_law_told_here", "_law_inputs", "_law_more", "_law_text", "_law_place"]
abbrev t_law_1 : TSD := (dIfS (dOr (dAnd (dTest (dOp (eAny false) (dVar 6) (dC (.int 1)))) (dTest (dOp (eAny true) (dCB kRepr (dCons (dVar 4) dNil)) (dCB kRepr (dCons (dTup (dCons (dC (.str "bad")) (dCons (dVar 8) dNil))) dNil))))) (dAnd (dTest (dOp (eAny false) (dVar 6) (dC (.int 0)))) (dTest (dOp (eAny true) (dOp xAny (dVar 4) (dC (.int 0))) (dC (.str "fine"))))))
  (dRet (dC (.bl false)))
  dNext)
abbrev t_law_2 : TSD := (dSeq (dAsg (dCall sp_law_beyond (dCons (dVar 1) (dCons (dVar 5) (dCons (dOp aAny (dC (.int 1)) (dCall sp_law_draw (dCons (dVar 1) (dCons (dC (.int 11)) dNil)))) (dCons (dCall sp_law_draw (dCons (dVar 1) (dCons (dC (.int 7)) dNil))) (dCons (dVar 6) dNil)))))) (gdTup 2 (gdCons (gdName 7) (gdCons (gdName 8) gdNil))))
  (dSeq (dAsg (dCall sp_law_told (dCons (dVar 7) dNil)) (gdName 4))
  t_law_1))
abbrev t_law_3 : TSD := (dSeq (dPar 5 6 (dCons (dCall sp_law_draw (dCons (dVar 1) (dCons (dC (.int 5)) dNil))) (dCons (dCall sp_law_draw (dCons (dVar 1) (dCons (dC (.int 2)) dNil))) dNil)))
  t_law_2)
abbrev t_law_4 : TSD := (dRet (dOp (eAny false) (dCB kRepr (dCons (dLst (dCons (dCall sp_law_told (dCons (dBM tyS mJoin (dC (.str "\n")) (dCons (dOp aAny (dVar 3) (dLst (dCons (dC (.str "out r0")) dNil))) dNil)) dNil)) (dCons (dCall sp_law_told (dCons (dC (.str "in 5\nout a")) dNil)) dNil))) dNil)) (dCB kRepr (dCons (dLst (dCons (dTup (dCons (dC (.str "bad")) (dCons (dTup (dCons (dC (.int 14)) (dCons (dC (.int 1)) dNil))) dNil))) (dCons (dTup (dCons (dC (.str "bad")) (dCons (dTup (dCons (dC (.int 1)) (dCons (dC (.int 2)) dNil))) dNil))) dNil))) dNil))))
abbrev t_law_5 : TSD := (dSeq (dIfS (dTest (dOp (eAny true) (dOp xAny (dCall sp_law_told (dCons (dBM tyS mJoin (dC (.str "\n")) (dCons (dOp aAny (dSl (dVar 3) dNoPart (dPart (dC (.int 13)))) (dLst (dCons (dC (.str "out r11")) dNil))) dNil)) dNil)) (dC (.int 0))) (dC (.str "fine"))))
  (dRet (dC (.bl false)))
  dNext)
  t_law_4)
abbrev t_law_6 : TSD := (dSeq (dFor (iRngD1 (dCons (dC (.int 12)) dNil)) (gdName 2)
  t_law_3)
  (dSeq (dAsg (dCall sp_law_lines (dCons (dVar 1) (dCons (dC (.int 0)) (dCons (dC (.int 13)) dNil)))) (gdName 3))
  t_law_5))
def t_law : TSD := (dSeq (dAsg (dCall sp_law_feed (dCons (dVar 0) dNil)) (gdName 1))
  t_law_6)
theorem vc_law : VC sp_law N_law t_law := by
  rintro ds G Q EX ⟨ns, rfl, h1, hbt, rfl, hq⟩
  have hsz : sizeLine = 16777216 := sizeLine_eq
  walk_at "go law"
  refine ⟨ns, rfl, h1, fun p G' hp hf hb => ?_⟩
  walk_at "d"
  refine for_rng_set (n := 12) [2, 4, 5, 6, 7, 8] (fun i vs G' => (∃ (u2 : Option D) (u4 : Option D) (u5 : Option D) (u6 : Option D) (u7 : Option D) (u8 : Option D), vs = [u2, u4, u5, u6, u7, u8]) ∧ Feed G' p (10000 + 300 * i)) rfl ⟨⟨_, _, _, _, _, _, rfl⟩, hf.mono (by omega)⟩ ?_ ?_
  · rintro i vs G1 hi ⟨⟨u2, u4, u5, u6, u7, u8, rfl⟩, hF1⟩
    walk_at "sl"
    refine st_draw hF1 (by omega) (by decide) (by decide) fun n G2 hn hF2 hB2 => ?_
    walk_at "d"
    refine st_draw hF2 (by omega) (by decide) (by decide) fun more G3 hmore hF3 hB3 => ?_
    walk_at "d"
    refine st_draw hF3 (by omega) (by decide) (by decide) fun m0 G4 hm0 hF4 hB4 => ?_
    walk_at "d"
    refine st_draw hF4 (by omega) (by decide) (by decide) fun way G5 hway hF5 hB5 => ?_
    walk_at "d"
    have em : D.int (1 + (m0 : Int)) = dN (1 + m0) := congrArg D.int (by omega)
    rw [em]
    refine ⟨p, n, 1 + m0, way, more, _, rfl, hF5, by omega, by omega, by omega, by omega, by omega, by omega, fun z w G6 hz hF6 hB6 => ?_⟩
    walk_at "d"
    refine ⟨z, rfl, hz.tx, fun G7 hk7 => ?_⟩
    have hF7 := hF6.kp hk7
    rcases (by omega : more = 0 ∨ more = 1) with rfl | rfl
    · obtain ⟨x, ex⟩ := hz.fine rfl
      rw [ex]
      walk_at "d"
      walk_at "fin"
      exact ⟨⟨_, _, _, _, _, _, rfl⟩, hF7.mono (by omega)⟩
    · rw [hz.bad rfl]
      have hr := rpr_place (l := 1 + m0 + 2) (w := w) (by omega) (by have := hz.small; omega)
      rw [show toldV (.error (1 + m0 + 2, w)) = D.tup [.str "bad", .tup [dN (1 + m0 + 2), dN w]] from rfl]
      walk_at "d"
      refine st_reprD 64 100 hr (by decide) (by decide) ?_
      walk_at "d"
      refine st_reprD 64 100 hr (by decide) (by decide) ?_
      walk_at "d"
      walk_at "fin"
      exact ⟨⟨_, _, _, _, _, _, rfl⟩, hF7.mono (by omega)⟩
  · rintro vs G1 ⟨⟨u2, u4, u5, u6, u7, u8, rfl⟩, hF1⟩
    walk_at "sl"
    refine ⟨p, 0, 13, _, rfl, hF1, by omega, by decide, by decide, fun rs G2 hrl hrs hF2 hB2 => ?_⟩
    have h13 := thirteen hrs hrl
    have h12 := twelve (hrs.take 12) (by rw [List.length_take]; omega)
    rw [← headL_take] at h12
    walk_at "d"
    have ecut : dcut (((headL 0 rs).map (·.1)).map D.str) none (some 13) = (((headL 0 rs).take 13).map (·.1)).map D.str := (dcut_take _ 13).trans (by rw [List.map_take, List.map_take])
    rw [ecut]
    refine st_addLm (c := D.str) (b := [("out r11" : Str)]) (by rw [List.length_map, List.length_take, headL_len, hsz]; simp only [List.length_cons, List.length_nil]; omega) ?_
    walk_at "d"
    refine st_join' (.lst _) h12.1 ?_
    walk_at "d"
    refine ⟨_, rfl, h12.2.tx, fun G3 hk3 => ?_⟩
    obtain ⟨x, ex⟩ := h12.2.fine rfl
    rw [ex]
    walk_at "d"
    refine st_addLm (c := D.str) (b := [("out r0" : Str)]) (by rw [List.length_map, headL_len, hsz]; simp only [List.length_cons, List.length_nil]; omega) ?_
    walk_at "d"
    refine st_join' (.lst _) h13.1 ?_
    walk_at "d"
    refine ⟨_, rfl, h13.2.1, fun G4 hk4 => ?_⟩
    rw [h13.2.2]
    walk_at "d"
    refine ⟨_, rfl, in_five.2, fun G5 hk5 => ?_⟩
    rw [in_five.1]
    rw [show toldV (.error (14, 1)) = D.tup [.str "bad", .tup [dN 14, dN 1]] from rfl, show toldV (.error (1, 2)) = D.tup [.str "bad", .tup [dN 1, dN 2]] from rfl]
    walk_at "d"
    refine st_reprD 64 300 rpr_both (by decide) (by decide) ?_
    walk_at "d"
    refine st_reprD 64 300 rpr_both (by decide) (by decide) ?_
    walk_at "d"
    have key : ∀ b : Bool, b = true → Q (.bl b) G5 := fun b hb => by rw [hb]; exact hq _
    exact key _ (decide_eq_true rfl)

def inCls (st : Stmt) (j : Nat) : Stmt := match st with
  | .ClassDef _ _ _ body _ _ _ _ _ _ _ => body.getD j (.Pass ⟨0, 0, 0, 0⟩)
  | _ => .Pass ⟨0, 0, 0, 0⟩
theorem fld_one {K : PySem.W.Frag} {c f : Str} {C : Addr} (a : PySem.W.nsIn K mainGlobals c = some (some (.ref C))) (k : Cls K C) (n : NoAttr K C f) : FldOk K [c] f := by
  intro c' hc C' hC'
  rw [List.mem_singleton.mp hc, gaddr_of a] at hC'
  cases hC'
  exact ⟨k, n⟩
def top (i : Nat) : Stmt := PySem.Challenge.pw_everyround_k88_limits_of_texts.main.body.getD i (.Pass ⟨0, 0, 0, 0⟩)
abbrev s_law_feed : Stmt := top 23
theorem sc_law_feed : FnScope N_law_feed ["_law_script"] (defScope s_law_feed) := ⟨rfl, rfl, rfl, by decide +kernel, rfl, by decide +kernel, by decide +kernel⟩
abbrev s_law_draw : Stmt := top 24
theorem sc_law_draw : FnScope N_law_draw ["_law_feed_here", "_law_many"] (defScope s_law_draw) := ⟨rfl, rfl, rfl, by decide +kernel, rfl, by decide +kernel, by decide +kernel⟩
abbrev s_law_one : Stmt := top 25
theorem sc_law_one : FnScope N_law_one ["_law_feed_here", "_law_items"] (defScope s_law_one) := ⟨rfl, rfl, rfl, by decide +kernel, rfl, by decide +kernel, by decide +kernel⟩
abbrev s_law_lines : Stmt := top 27
theorem sc_law_lines : FnScope N_law_lines ["_law_feed_here", "_law_inputs", "_law_count"] (defScope s_law_lines) := ⟨rfl, rfl, rfl, by decide +kernel, rfl, by decide +kernel, by decide +kernel⟩
abbrev s_law_beyond : Stmt := top 28
theorem sc_law_beyond : FnScope N_law_beyond ["_law_feed_here", "_law_inputs", "_law_count", "_law_way", "_law_more"] (defScope s_law_beyond) := ⟨rfl, rfl, rfl, by decide +kernel, rfl, by decide +kernel, by decide +kernel⟩
abbrev s_Line_is_over : Stmt := inCls (top 12) 2
theorem sc_Line_is_over : FnScope N_Line_is_over ["self"] (defScope s_Line_is_over) := ⟨rfl, rfl, rfl, by decide +kernel, rfl, by decide +kernel, by decide +kernel⟩
abbrev s_Line_sees : Stmt := inCls (top 12) 3
theorem sc_Line_sees : FnScope N_Line_sees ["self"] (defScope s_Line_sees) := ⟨rfl, rfl, rfl, by decide +kernel, rfl, by decide +kernel, by decide +kernel⟩
abbrev s_Line_fails : Stmt := inCls (top 12) 1
theorem sc_Line_fails : FnScope N_Line_fails ["self"] (defScope s_Line_fails) := ⟨rfl, rfl, rfl, by decide +kernel, rfl, by decide +kernel, by decide +kernel⟩
abbrev s_Line_takes : Stmt := inCls (top 12) 4
theorem sc_Line_takes : FnScope N_Line_takes ["self", "words"] (defScope s_Line_takes) := ⟨rfl, rfl, rfl, by decide +kernel, rfl, by decide +kernel, by decide +kernel⟩
abbrev s_Line_ends : Stmt := inCls (top 12) 5
theorem sc_Line_ends : FnScope N_Line_ends ["self"] (defScope s_Line_ends) := ⟨rfl, rfl, rfl, by decide +kernel, rfl, by decide +kernel, by decide +kernel⟩
abbrev s_read_inputs : Stmt := top 19
theorem sc_read_inputs : FnScope N_read_inputs ["line"] (defScope s_read_inputs) := ⟨rfl, rfl, rfl, by decide +kernel, rfl, by decide +kernel, by decide +kernel⟩
abbrev s_Line_init : Stmt := inCls (top 12) 0
theorem sc_Line_init : FnScope N_Line_init ["self", "number", "parts"] (defScope s_Line_init) := ⟨rfl, rfl, rfl, by decide +kernel, rfl, by decide +kernel, by decide +kernel⟩
abbrev s_line_at : Stmt := top 20
theorem sc_line_at : FnScope N_line_at ["lines", "index"] (defScope s_line_at) := ⟨rfl, rfl, rfl, by decide +kernel, rfl, by decide +kernel, by decide +kernel⟩
abbrev s_is_coefficient : Stmt := top 13
theorem sc_is_coefficient : FnScope N_is_coefficient ["word"] (defScope s_is_coefficient) := ⟨rfl, rfl, rfl, by decide +kernel, rfl, by decide +kernel, by decide +kernel⟩
abbrev s_read_coefficient : Stmt := top 14
theorem sc_read_coefficient : FnScope N_read_coefficient ["line"] (defScope s_read_coefficient) := ⟨rfl, rfl, rfl, by decide +kernel, rfl, by decide +kernel, by decide +kernel⟩
abbrev s_read_term : Stmt := top 15
theorem sc_read_term : FnScope N_read_term ["line", "names"] (defScope s_read_term) := ⟨rfl, rfl, rfl, by decide +kernel, rfl, by decide +kernel, by decide +kernel⟩
abbrev s_read_terms : Stmt := top 16
theorem sc_read_terms : FnScope N_read_terms ["line", "names"] (defScope s_read_terms) := ⟨rfl, rfl, rfl, by decide +kernel, rfl, by decide +kernel, by decide +kernel⟩
abbrev s_read_row : Stmt := top 17
theorem sc_read_row : FnScope N_read_row ["line", "names", "index"] (defScope s_read_row) := ⟨rfl, rfl, rfl, by decide +kernel, rfl, by decide +kernel, by decide +kernel⟩
abbrev s_place_names : Stmt := top 11
theorem sc_place_names : FnScope N_place_names ["inputs", "rows"] (defScope s_place_names) := ⟨rfl, rfl, rfl, by decide +kernel, rfl, by decide +kernel, by decide +kernel⟩
abbrev s_read_outs : Stmt := top 18
theorem sc_read_outs : FnScope N_read_outs ["line", "names"] (defScope s_read_outs) := ⟨rfl, rfl, rfl, by decide +kernel, rfl, by decide +kernel, by decide +kernel⟩
abbrev s_read_program : Stmt := top 21
theorem sc_read_program : FnScope N_read_program ["text"] (defScope s_read_program) := ⟨rfl, rfl, rfl, by decide +kernel, rfl, by decide +kernel, by decide +kernel⟩
abbrev s_law_told : Stmt := top 26
theorem sc_law_told : FnScope N_law_told ["_law_text"] (defScope s_law_told) := ⟨rfl, rfl, rfl, by decide +kernel, rfl, by decide +kernel, by decide +kernel⟩
abbrev s_law : Stmt := top 29
theorem sc_law : FnScope N_law ["_law_script"] (defScope s_law) := ⟨rfl, rfl, rfl, by decide +kernel, rfl, by decide +kernel, by decide +kernel⟩
abbrev s_BadText_init : Stmt := inCls (top 2) 0
theorem sc_BadText_init : FnScope ["self", "line", "word"] ["self", "line", "word"] (defScope s_BadText_init) := ⟨rfl, rfl, rfl, by decide +kernel, rfl, by decide +kernel, by decide +kernel⟩
-- v_NAMES : D stands in the law's own text
/-- what the top has written -/
structure Txt (K : PySem.W.Frag) (mg : Str → Option Value) where
  c_RoundError : Addr
  g_RoundError : gaddr K "RoundError" = some c_RoundError
  mc_RoundError : mg "RoundError" = some (.ref c_RoundError)
  c_BadText : Addr
  g_BadText : gaddr K "BadText" = some c_BadText
  mc_BadText : mg "BadText" = some (.ref c_BadText)
  c_Line : Addr
  g_Line : gaddr K "Line" = some c_Line
  mc_Line : mg "Line" = some (.ref c_Line)
  f_law_feed : Addr
  fd_law_feed : FuncData
  F_law_feed : Fun K "_law_feed" "_law_feed" s_law_feed f_law_feed fd_law_feed
  m_law_feed : mg "_law_feed" = some (.ref f_law_feed)
  b_law_feed : Binds K fd_law_feed ["_law_script"] []
  f_law_draw : Addr
  fd_law_draw : FuncData
  F_law_draw : Fun K "_law_draw" "_law_draw" s_law_draw f_law_draw fd_law_draw
  m_law_draw : mg "_law_draw" = some (.ref f_law_draw)
  b_law_draw : Binds K fd_law_draw ["_law_feed_here", "_law_many"] []
  f_law_one : Addr
  fd_law_one : FuncData
  F_law_one : Fun K "_law_one" "_law_one" s_law_one f_law_one fd_law_one
  m_law_one : mg "_law_one" = some (.ref f_law_one)
  b_law_one : Binds K fd_law_one ["_law_feed_here", "_law_items"] []
  f_law_lines : Addr
  fd_law_lines : FuncData
  F_law_lines : Fun K "_law_lines" "_law_lines" s_law_lines f_law_lines fd_law_lines
  m_law_lines : mg "_law_lines" = some (.ref f_law_lines)
  b_law_lines : Binds K fd_law_lines ["_law_feed_here", "_law_inputs", "_law_count"] []
  f_law_beyond : Addr
  fd_law_beyond : FuncData
  F_law_beyond : Fun K "_law_beyond" "_law_beyond" s_law_beyond f_law_beyond fd_law_beyond
  m_law_beyond : mg "_law_beyond" = some (.ref f_law_beyond)
  b_law_beyond : Binds K fd_law_beyond ["_law_feed_here", "_law_inputs", "_law_count", "_law_way", "_law_more"] []
  f_Line_is_over : Addr
  fd_Line_is_over : FuncData
  F_Line_is_over : Fun K "is_over" "Line.is_over" s_Line_is_over f_Line_is_over fd_Line_is_over
  b_Line_is_over : Binds K fd_Line_is_over ["self"] []
  f_Line_sees : Addr
  fd_Line_sees : FuncData
  F_Line_sees : Fun K "sees" "Line.sees" s_Line_sees f_Line_sees fd_Line_sees
  b_Line_sees : Binds K fd_Line_sees ["self"] []
  f_Line_fails : Addr
  fd_Line_fails : FuncData
  F_Line_fails : Fun K "fails" "Line.fails" s_Line_fails f_Line_fails fd_Line_fails
  b_Line_fails : Binds K fd_Line_fails ["self"] []
  f_Line_takes : Addr
  fd_Line_takes : FuncData
  F_Line_takes : Fun K "takes" "Line.takes" s_Line_takes f_Line_takes fd_Line_takes
  b_Line_takes : Binds K fd_Line_takes ["self", "words"] []
  f_Line_ends : Addr
  fd_Line_ends : FuncData
  F_Line_ends : Fun K "ends" "Line.ends" s_Line_ends f_Line_ends fd_Line_ends
  b_Line_ends : Binds K fd_Line_ends ["self"] []
  f_read_inputs : Addr
  fd_read_inputs : FuncData
  F_read_inputs : Fun K "read_inputs" "read_inputs" s_read_inputs f_read_inputs fd_read_inputs
  m_read_inputs : mg "read_inputs" = some (.ref f_read_inputs)
  b_read_inputs : Binds K fd_read_inputs ["line"] []
  f_Line_init : Addr
  fd_Line_init : FuncData
  F_Line_init : Fun K "__init__" "Line.__init__" s_Line_init f_Line_init fd_Line_init
  b_Line_init : Binds K fd_Line_init ["self", "number", "parts"] []
  f_line_at : Addr
  fd_line_at : FuncData
  F_line_at : Fun K "line_at" "line_at" s_line_at f_line_at fd_line_at
  m_line_at : mg "line_at" = some (.ref f_line_at)
  b_line_at : Binds K fd_line_at ["lines", "index"] []
  f_is_coefficient : Addr
  fd_is_coefficient : FuncData
  F_is_coefficient : Fun K "is_coefficient" "is_coefficient" s_is_coefficient f_is_coefficient fd_is_coefficient
  m_is_coefficient : mg "is_coefficient" = some (.ref f_is_coefficient)
  b_is_coefficient : Binds K fd_is_coefficient ["word"] []
  f_read_coefficient : Addr
  fd_read_coefficient : FuncData
  F_read_coefficient : Fun K "read_coefficient" "read_coefficient" s_read_coefficient f_read_coefficient fd_read_coefficient
  m_read_coefficient : mg "read_coefficient" = some (.ref f_read_coefficient)
  b_read_coefficient : Binds K fd_read_coefficient ["line"] []
  f_read_term : Addr
  fd_read_term : FuncData
  F_read_term : Fun K "read_term" "read_term" s_read_term f_read_term fd_read_term
  m_read_term : mg "read_term" = some (.ref f_read_term)
  b_read_term : Binds K fd_read_term ["line", "names"] []
  f_read_terms : Addr
  fd_read_terms : FuncData
  F_read_terms : Fun K "read_terms" "read_terms" s_read_terms f_read_terms fd_read_terms
  m_read_terms : mg "read_terms" = some (.ref f_read_terms)
  b_read_terms : Binds K fd_read_terms ["line", "names"] []
  f_read_row : Addr
  fd_read_row : FuncData
  F_read_row : Fun K "read_row" "read_row" s_read_row f_read_row fd_read_row
  m_read_row : mg "read_row" = some (.ref f_read_row)
  b_read_row : Binds K fd_read_row ["line", "names", "index"] []
  f_place_names : Addr
  fd_place_names : FuncData
  F_place_names : Fun K "place_names" "place_names" s_place_names f_place_names fd_place_names
  m_place_names : mg "place_names" = some (.ref f_place_names)
  b_place_names : Binds K fd_place_names ["inputs", "rows"] []
  f_read_outs : Addr
  fd_read_outs : FuncData
  F_read_outs : Fun K "read_outs" "read_outs" s_read_outs f_read_outs fd_read_outs
  m_read_outs : mg "read_outs" = some (.ref f_read_outs)
  b_read_outs : Binds K fd_read_outs ["line", "names"] []
  f_read_program : Addr
  fd_read_program : FuncData
  F_read_program : Fun K "read_program" "read_program" s_read_program f_read_program fd_read_program
  m_read_program : mg "read_program" = some (.ref f_read_program)
  b_read_program : Binds K fd_read_program ["text"] []
  f_law_told : Addr
  fd_law_told : FuncData
  F_law_told : Fun K "_law_told" "_law_told" s_law_told f_law_told fd_law_told
  m_law_told : mg "_law_told" = some (.ref f_law_told)
  b_law_told : Binds K fd_law_told ["_law_text"] []
  f_law : Addr
  fd_law : FuncData
  F_law : Fun K "law" "law" s_law f_law fd_law
  m_law : mg "law" = some (.ref f_law)
  b_law : Binds K fd_law ["_law_script"] []
  f_BadText_init : Addr
  fd_BadText_init : FuncData
  F_BadText_init : Fun K "__init__" "BadText.__init__" s_BadText_init f_BadText_init fd_BadText_init
  b_BadText_init : Binds K fd_BadText_init ["self", "line", "word"] []
  x_BadText : OexC K c_BadText
  i_BadText : PySem.W.findIn K (.ref c_BadText) "__init__" = some (some (.ref f_BadText_init))
  t_BadText : PySem.W.typeIn K (.ref f_BadText_init) = some (.type "function")
  no_BadText_line : PySem.W.findIn K (.ref c_BadText) "line" = some none
  no_BadText_word : PySem.W.findIn K (.ref c_BadText) "word" = some none
  k_Line : Cls K c_Line
  e_Line_sees : Meth K c_Line "sees" f_Line_sees
  e_Line_ends : Meth K c_Line "ends" f_Line_ends
  e_Line_takes : Meth K c_Line "takes" f_Line_takes
  e_Line_fails : Meth K c_Line "fails" f_Line_fails
  o_Line_at : FldOk K ["Line"] "at"
  o_Line_parts : FldOk K ["Line"] "parts"
  e_Line_is_over : Meth K c_Line "is_over" f_Line_is_over
  o_Line_number : FldOk K ["Line"] "number"
  mk_Line : Mk K c_Line f_Line_init
  xt_RoundError : ExTab K c_RoundError [("BadText", true)]
  xt_BadText : ExTab K c_BadText [("BadText", true)]
  xf_word : ∀ c ∈ (["BadText"] : List Str), ∀ C, gaddr K c = some C → ExcC K C ∧ PySem.W.findIn K (.ref C) "word" = some none
  xf_line : ∀ c ∈ (["BadText"] : List Str), ∀ C, gaddr K c = some C → ExcC K C ∧ PySem.W.findIn K (.ref C) "line" = some none
  tk_MOST_ROWS : Tok
  m_MOST_ROWS : mg "MOST_ROWS" = some (.int 12 tk_MOST_ROWS)
  tk_MOST_INPUTS : Tok
  m_MOST_INPUTS : mg "MOST_INPUTS" = some (.int 4 tk_MOST_INPUTS)
  tk_MOST_TERMS : Tok
  m_MOST_TERMS : mg "MOST_TERMS" = some (.int 6 tk_MOST_TERMS)
  tk_MOST_PLACES : Tok
  m_MOST_PLACES : mg "MOST_PLACES" = some (.int 2 tk_MOST_PLACES)
  tk_DIGITS : Tok
  m_DIGITS : mg "DIGITS" = some (.str "0123456789" tk_DIGITS)
  w_NAMES : Addr
  m_NAMES : mg "NAMES" = some (.ref w_NAMES)
  r_NAMES : ∀ H G, Rp K H G v_NAMES (.ref w_NAMES)
  tk_MOST_OUTS : Tok
  m_MOST_OUTS : mg "MOST_OUTS" = some (.int 4 tk_MOST_OUTS)
  n_range : mg "range" = none
  n_repr : mg "repr" = none
  n_abs : mg "abs" = none
  n_int : mg "int" = none
  n_len : mg "len" = none
  n_str : mg "str" = none
  n_tuple : mg "tuple" = none
  n_all : mg "all" = none
  n_list : mg "list" = none
section
variable {P : Program} {w : World} {K : PySem.W.Frag} {mg : Str → Option Value} {base : Heap}
theorem okx_BadText_init (T : Txt K mg) : FnOk P w K mg base CX0 1 T.f_BadText_init T.fd_BadText_init ["self", "line", "word"] (spExc T.c_BadText ["line", "word"]) := fn_exc2 T.x_BadText T.no_BadText_line T.no_BadText_word T.F_BadText_init sc_BadText_init rfl rfl rfl rfl rfl rfl rfl ⟨_, _, _, _, _, _, _, _, rfl⟩
theorem ok_law_feed (T : Txt K mg) : FnG P w K mg base 1 T.f_law_feed T.fd_law_feed ["_law_script"] sp_law_feed :=
  FunG.ok (N := N_law_feed) T.F_law_feed sc_law_feed len_law_feed fun cdv A outer s H E hA hr => ⟨t_law_feed, (by exact (dss_one (ds_ret (de_lstM (da_cons de_int (da_cons (de_lc (own := [("_law_cell", 1)]) true (.nm 1) rfl sc_law_feed.nd (di_sq (de_sl (de_var 0) do_none (do_some de_int))) (blkOk_by (N := N_law_feed) (sc := defScope s_law_feed) (by decide +kernel)) (by decide) (fun _ _ _ _ _ => by exact (pg_name (i := 1) sc_law_feed.nd rfl (Or.inl rfl))) (fun _ _ _ _ _ => by exact dts_nil) (fun _ _ _ _ _ => by exact (de_callB cAbs (by rfl) T.n_abs (by decide +kernel) (da_cons (de_var 1) da_nil)))) (da_cons de_int (da_cons de_int da_nil)))))))), vc_law_feed⟩
theorem ok_law_draw (T : Txt K mg) : FnG P w K mg base 1 T.f_law_draw T.fd_law_draw ["_law_feed_here", "_law_many"] sp_law_draw :=
  FunG.ok (N := N_law_draw) T.F_law_draw sc_law_draw len_law_draw fun cdv A outer s H E hA hr => ⟨t_law_draw, (by exact (dss_cons (ds_asg (de_op oAdd (de_ix (de_var 0) de_int) de_int) (dg_sub (de_var 0) de_int))
  (dss_cons (ds_if (dt_cmp oGt (de_ix (de_var 0) de_int) de_int (nomark _))
  (dss_cons (ds_set (i := 5) sc_law_draw.nd rfl (Or.inl rfl) (de_op oMod (de_callTy cInt (by rfl) T.n_int (by decide +kernel) (da_cons (de_ix (de_var 0) de_int) da_nil)) (de_var 1)))
  (dss_cons (ds_asg (de_op oDiv (de_ix (de_var 0) de_int) (de_var 1)) (dg_sub (de_var 0) de_int))
  (dss_one (ds_ret (de_var 5)))))
  dss_nil)
  (dss_cons (ds_set (i := 2) sc_law_draw.nd rfl (Or.inl rfl) (de_op oAdd (de_ix (de_var 0) de_int) (de_op oMul (de_lst (da_cons de_int da_nil)) (de_callTy cInt (by rfl) T.n_int (by decide +kernel) (da_cons (de_cmp (oEq (hu64 hr)) (de_ix (de_var 0) de_int) (de_lst da_nil) (nomark _)) da_nil)))))
  (dss_cons (ds_set (i := 3) sc_law_draw.nd rfl (Or.inl rfl) (de_ix (de_var 2) (de_op oMod (de_callTy cInt (by rfl) T.n_int (by decide +kernel) (da_cons (de_ix (de_var 0) de_int) da_nil)) (de_callB cLen (by rfl) T.n_len (by decide +kernel) (da_cons (de_var 2) da_nil)))))
  (dss_cons (ds_asg (de_op oAdd (de_ix (de_var 0) de_int) de_int) (dg_sub (de_var 0) de_int))
  (dss_cons (ds_if (DW.pt (dw_and (dt_cmp oGe (de_var 3) (de_op oPow de_int de_int) (nomark _)) (dw_and1 (dt_cmp oLe (de_ix (de_var 0) de_int) (de_callB cLen (by rfl) T.n_len (by decide +kernel) (da_cons (de_var 2) da_nil)) (nomark _)))))
  (dss_cons (ds_asg (de_op oDiv (de_var 3) (de_var 1)) (dg_sub (de_var 0) de_int))
  (dss_one (ds_ret (de_op oMod (de_callTy cInt (by rfl) T.n_int (by decide +kernel) (da_cons (de_var 3) da_nil)) (de_var 1)))))
  dss_nil)
  (dss_cons (ds_set (i := 4) sc_law_draw.nd rfl (Or.inl rfl) (de_op oMod (de_callTy cInt (by rfl) T.n_int (by decide +kernel) (da_cons (de_op oPow (de_op oAdd (de_op oMod (de_callTy cInt (by rfl) T.n_int (by decide +kernel) (da_cons (de_var 3) da_nil)) de_int) (de_op oMul de_int (de_ix (de_var 0) de_int))) de_int) da_nil)) de_int))
  (dss_cons (ds_set (i := 4) sc_law_draw.nd rfl (Or.inl rfl) (de_op oMod (de_callTy cInt (by rfl) T.n_int (by decide +kernel) (da_cons (de_op oPow (de_op oAdd (de_op oAdd (de_var 4) (de_op oMul de_int (de_ix (de_var 0) de_int))) de_int) de_int) da_nil)) de_int))
  (dss_one (ds_ret (de_op oMod (de_callTy cInt (by rfl) T.n_int (by decide +kernel) (da_cons (de_op oDiv (de_var 4) de_int) da_nil)) (de_var 1))))))))))))), vc_law_draw⟩
theorem ok_law_one (T : Txt K mg) : FnG P w K mg base 2 T.f_law_one T.fd_law_one ["_law_feed_here", "_law_items"] sp_law_one :=
  FunG.ok (N := N_law_one) T.F_law_one sc_law_one len_law_one fun cdv A outer s H E hA hr => ⟨t_law_one, (by exact (dss_one (ds_ret (de_ix (de_var 1) (de_call (ok_law_draw T) hA (hr.mono (by decide)) (by rfl) T.m_law_draw T.F_law_draw.kp T.b_law_draw (takes_of rfl rfl rfl rfl) (da_cons (de_var 0) (da_cons (de_callB cLen (by rfl) T.n_len (by decide +kernel) (da_cons (de_var 1) da_nil)) da_nil))))))), vc_law_one⟩
theorem ok_law_lines (T : Txt K mg) : FnG P w K mg base 3 T.f_law_lines T.fd_law_lines ["_law_feed_here", "_law_inputs", "_law_count"] sp_law_lines :=
  FunG.ok (N := N_law_lines) T.F_law_lines sc_law_lines len_law_lines fun cdv A outer s H E hA hr => ⟨t_law_lines, (by exact (dss_cons (ds_set (i := 3) sc_law_lines.nd rfl (Or.inl rfl) (de_lstM (da_cons (de_op oAdd de_str (de_callTy cStr (by rfl) T.n_str (by decide +kernel) (da_cons (de_var 1) da_nil))) da_nil)))
  (dss_cons (ds_for (passes_of rfl) rfl (di_rng1 (by rfl) T.n_range (da_cons (de_var 2) da_nil)) (dg_name sc_law_lines.nd (i := 4) rfl (Or.inl rfl))
  (dss_cons (ds_set (i := 5) sc_law_lines.nd rfl (Or.inl rfl) (de_op oAdd (de_op oAdd (de_sl (de_lst (da_cons de_str (da_cons de_str (da_cons de_str (da_cons de_str da_nil))))) do_none (do_some (de_var 1))) (de_lc (own := [("_law_j", 7)]) true (.nm 7) rfl sc_law_lines.nd (di_rng1 (by rfl) T.n_range (da_cons (de_var 4) da_nil)) (blkOk_by (N := N_law_lines) (sc := defScope s_law_lines) (by decide +kernel)) (by decide) (fun _ _ _ _ _ => by exact (pg_name (i := 7) sc_law_lines.nd rfl (Or.inl rfl))) (fun _ _ _ _ _ => by exact dts_nil) (fun _ _ _ _ _ => by exact (de_op oAdd de_str (de_callTy cStr (by rfl) T.n_str (by decide +kernel) (da_cons (de_var 7) da_nil)))))) (de_lst (da_cons de_str da_nil))))
  (dss_cons (ds_set (i := 6) sc_law_lines.nd rfl (Or.inl rfl) (de_call (ok_law_one T) hA (hr.mono (by decide)) (by rfl) T.m_law_one T.F_law_one.kp T.b_law_one (takes_of rfl rfl rfl rfl) (da_cons (de_var 0) (da_cons (de_var 5) da_nil))))
  (dss_one (ds_expr (de_append (de_var 3) (da_cons (de_op oAdd (de_op oAdd (de_op oAdd (de_op oAdd (de_op oAdd (de_op oAdd de_str (de_callTy cStr (by rfl) T.n_str (by decide +kernel) (da_cons (de_var 4) da_nil))) de_str) (de_call (ok_law_one T) hA (hr.mono (by decide)) (by rfl) T.m_law_one T.F_law_one.kp T.b_law_one (takes_of rfl rfl rfl rfl) (da_cons (de_var 0) (da_cons (de_lst (da_cons de_str (da_cons de_str da_nil))) da_nil)))) de_str) (de_op oMulS de_str (de_callTy cInt (by rfl) T.n_int (by decide +kernel) (da_cons (de_cmp (oNe (hu64 hr)) (de_var 6) de_str (nomark _)) da_nil)))) (de_var 6)) da_nil)))))))
  (dss_frz 3 (dss_one (ds_ret (de_var 3))))))), vc_law_lines⟩
theorem ok_law_beyond (T : Txt K mg) : FnG P w K mg base 4 T.f_law_beyond T.fd_law_beyond ["_law_feed_here", "_law_inputs", "_law_count", "_law_way", "_law_more"] sp_law_beyond :=
  FunG.ok (N := N_law_beyond) T.F_law_beyond sc_law_beyond len_law_beyond fun cdv A outer s H E hA hr => ⟨t_law_beyond, (by exact (dss_cons (ds_par (i := 7) (j := 8) rfl sc_law_beyond.nd rfl rfl (by decide) rfl rfl (da_cons (de_call (ok_law_lines T) hA (hr.mono (by decide)) (by rfl) T.m_law_lines T.F_law_lines.kp T.b_law_lines (takes_of rfl rfl rfl rfl) (da_cons (de_var 0) (da_cons (de_var 1) (da_cons (de_var 2) da_nil)))) (da_cons de_str da_nil)) (by rfl))
  (dss_cons (ds_set (i := 5) sc_law_beyond.nd rfl (Or.inl rfl) (de_op oAdd (de_op oAdd de_str (de_callTy cStr (by rfl) T.n_str (by decide +kernel) (da_cons (de_var 2) da_nil))) de_str))
  (dss_cons (ds_if (dt_cmp (oEq (hu64 hr)) (de_var 3) de_int (nomark _))
  (dss_cons (ds_set (i := 9) sc_law_beyond.nd rfl (Or.inl rfl) (de_op oAdd (de_var 7) (de_lst (da_cons (de_op oAdd (de_var 5) (de_join de_str (da_cons (de_op oMul (de_lst (da_cons de_str da_nil)) (de_op oAdd de_int (de_var 4))) da_nil))) (da_cons (de_var 8) da_nil)))))
  (dss_one (ds_ret (de_tup (da_cons (de_join de_str (da_cons (de_var 9) da_nil)) (da_cons (de_tup (da_cons (de_op oAdd (de_var 2) de_int) (da_cons de_int da_nil))) da_nil))))))
  dss_nil)
  (dss_cons (ds_if (dt_cmp (oEq (hu64 hr)) (de_var 3) de_int (nomark _))
  (dss_cons (ds_set (i := 9) sc_law_beyond.nd rfl (Or.inl rfl) (de_op oAdd (de_var 7) (de_lst (da_cons (de_op oAdd (de_op oAdd (de_var 5) de_str) (de_op oMulS de_str (de_op oAdd de_int (de_var 4)))) (da_cons (de_var 8) da_nil)))))
  (dss_one (ds_ret (de_tup (da_cons (de_join de_str (da_cons (de_var 9) da_nil)) (da_cons (de_tup (da_cons (de_op oAdd (de_var 2) de_int) (da_cons de_int da_nil))) da_nil))))))
  dss_nil)
  (dss_cons (ds_if (dt_cmp (oEq (hu64 hr)) (de_var 3) de_int (nomark _))
  (dss_one (ds_ret (de_tup (da_cons (de_join de_str (da_cons (de_op oAdd (de_var 7) (de_lst (da_cons (de_op oAdd de_str (de_op oMulS de_str (de_op oAdd de_int (de_var 4)))) da_nil))) da_nil)) (da_cons (de_tup (da_cons (de_op oAdd (de_var 2) de_int) (da_cons de_int da_nil))) da_nil)))))
  dss_nil)
  (dss_cons (ds_if (dt_cmp (oEq (hu64 hr)) (de_var 3) de_int (nomark _))
  (dss_cons (ds_set (i := 10) sc_law_beyond.nd rfl (Or.inl rfl) (de_call (ok_law_one T) hA (hr.mono (by decide)) (by rfl) T.m_law_one T.F_law_one.kp T.b_law_one (takes_of rfl rfl rfl rfl) (da_cons (de_var 0) (da_cons (de_lst (da_cons de_str (da_cons de_str da_nil))) da_nil))))
  (dss_one (ds_ret (de_tup (da_cons (de_join de_str (da_cons (de_op oAdd (de_var 7) (de_lst (da_cons (de_op oAdd (de_op oAdd (de_op oAdd (de_var 5) de_str) (de_var 10)) (de_callTy cStr (by rfl) T.n_str (by decide +kernel) (da_cons (de_op oAdd de_int (de_var 4)) da_nil))) (da_cons (de_var 8) da_nil)))) da_nil)) (da_cons (de_tup (da_cons (de_op oAdd (de_var 2) de_int) (da_cons de_int da_nil))) da_nil))))))
  dss_nil)
  (dss_cons (ds_if (dt_cmp (oEq (hu64 hr)) (de_var 3) de_int (nomark _))
  (dss_cons (ds_set (i := 11) sc_law_beyond.nd rfl (Or.inl rfl) (de_ifExp (dt_cmp (oEq (hu64 hr)) (de_var 4) de_int (nomark _)) (de_sl (de_sl (de_op oAdd (de_sl (de_lst (da_cons de_str (da_cons de_str (da_cons de_str (da_cons de_str (da_cons de_str da_nil)))))) do_none (do_some (de_var 1))) (de_lst (da_cons de_str da_nil))) (do_some (de_op oSub (de_var 1) de_int)) do_none) do_none (do_some de_int)) (de_lst (da_cons (de_ix de_str (de_var 1)) da_nil))))
  (dss_one (ds_ret (de_tup (da_cons (de_join de_str (da_cons (de_op oAdd (de_var 7) (de_lst (da_cons (de_op oAdd (de_op oAdd (de_var 5) de_str) (de_ix (de_var 11) de_int)) (da_cons (de_var 8) da_nil)))) da_nil)) (da_cons (de_tup (da_cons (de_op oAdd (de_var 2) de_int) (da_cons de_int da_nil))) da_nil))))))
  dss_nil)
  (dss_cons (ds_if (dt_cmp (oEq (hu64 hr)) (de_var 3) de_int (nomark _))
  (dss_cons (ds_set (i := 6) sc_law_beyond.nd rfl (Or.inl rfl) (de_op oAdd de_str (de_callTy cStr (by rfl) T.n_str (by decide +kernel) (da_cons (de_op oAdd (de_op oSub (de_var 2) de_int) (de_op oMul (de_var 4) (de_op oAdd de_int (de_call (ok_law_draw T) hA (hr.mono (by decide)) (by rfl) T.m_law_draw T.F_law_draw.kp T.b_law_draw (takes_of rfl rfl rfl rfl) (da_cons (de_var 0) (da_cons de_int da_nil)))))) da_nil))))
  (dss_one (ds_ret (de_tup (da_cons (de_join de_str (da_cons (de_op oAdd (de_var 7) (de_lst (da_cons (de_op oAdd (de_op oAdd (de_var 5) de_str) (de_var 6)) (da_cons (de_var 8) da_nil)))) da_nil)) (da_cons (de_tup (da_cons (de_op oAdd (de_var 2) de_int) (da_cons de_int da_nil))) da_nil))))))
  dss_nil)
  (dss_cons (ds_set (i := 6) sc_law_beyond.nd rfl (Or.inl rfl) (de_op oAdd de_str (de_callTy cStr (by rfl) T.n_str (by decide +kernel) (da_cons (de_op oAdd (de_op oSub (de_var 2) de_int) (de_var 4)) da_nil))))
  (dss_one (ds_ret (de_tup (da_cons (de_join de_str (da_cons (de_op oAdd (de_var 7) (de_lst (da_cons (de_op oAdd de_str (de_var 6)) da_nil))) da_nil)) (da_cons (de_tup (da_cons (de_op oAdd (de_var 2) de_int) (da_cons de_int da_nil))) da_nil))))))))))))))), vc_law_beyond⟩
theorem ok_Line_is_over (T : Txt K mg) : FnG P w K mg base 1 T.f_Line_is_over T.fd_Line_is_over ["self"] sp_Line_is_over :=
  FunG.ok (N := N_Line_is_over) T.F_Line_is_over sc_Line_is_over len_Line_is_over fun cdv A outer s H E hA hr => ⟨t_Line_is_over, (by exact (dss_one (ds_ret (de_cmp (oEq (hu64 hr)) (de_fld T.o_Line_at (de_var 0)) (de_callB cLen (by rfl) T.n_len (by decide +kernel) (da_cons (de_fld T.o_Line_parts (de_var 0)) da_nil)) (nomark _))))), vc_Line_is_over⟩
theorem ok_Line_sees (T : Txt K mg) : FnG P w K mg base 2 T.f_Line_sees T.fd_Line_sees ["self"] sp_Line_sees :=
  FunG.ok (N := N_Line_sees) T.F_Line_sees sc_Line_sees len_Line_sees fun cdv A outer s H E hA hr => ⟨t_Line_sees, (by exact (dss_one (ds_ret (de_ifExp (dt_tru (de_meth0 T.g_Line T.k_Line T.e_Line_is_over (ok_Line_is_over T) hA (hr.mono (by decide)) T.b_Line_is_over (takes_of rfl rfl rfl rfl) (de_var 0))) de_str (de_ix (de_fld T.o_Line_parts (de_var 0)) (de_fld T.o_Line_at (de_var 0))))))), vc_Line_sees⟩
theorem ok_Line_fails (T : Txt K mg) : FnG P w K mg base 3 T.f_Line_fails T.fd_Line_fails ["self"] sp_Line_fails :=
  FunG.ok (N := N_Line_fails) T.F_Line_fails sc_Line_fails len_Line_fails fun cdv A outer s H E hA hr => ⟨t_Line_fails, (by exact (dss_one (ds_raise rfl (takes_of rfl rfl rfl rfl) T.g_BadText T.x_BadText T.i_BadText T.t_BadText (okx_BadText_init T) (hr.mono (by decide)) T.b_BadText_init (by rfl) T.mc_BadText (by decide) (da_cons (de_fld T.o_Line_number (de_var 0)) (da_cons (de_op oAdd (de_fld T.o_Line_at (de_var 0)) de_int) da_nil))))), vc_Line_fails⟩
theorem ok_Line_takes (T : Txt K mg) : FnG P w K mg base 4 T.f_Line_takes T.fd_Line_takes ["self", "words"] sp_Line_takes :=
  FunG.ok (N := N_Line_takes) T.F_Line_takes sc_Line_takes len_Line_takes fun cdv A outer s H E hA hr => ⟨t_Line_takes, (by exact (dss_cons (ds_if (dt_cmp (oNotIn (hu65 hr)) (de_meth0 T.g_Line T.k_Line T.e_Line_sees (ok_Line_sees T) hA (hr.mono (by decide)) T.b_Line_sees (takes_of rfl rfl rfl rfl) (de_var 0)) (de_var 1) (by with_unfolding_all rfl))
  (dss_one (ds_expr (de_meth0 T.g_Line T.k_Line T.e_Line_fails (ok_Line_fails T) hA (hr.mono (by decide)) T.b_Line_fails (takes_of rfl rfl rfl rfl) (de_var 0))))
  dss_nil)
  (dss_cons (ds_setF T.o_Line_at (de_var 0) (de_op oAdd (de_fld T.o_Line_at (de_var 0)) de_int))
  (dss_one (ds_ret (de_index (hu65 hr) (de_var 1) (da_cons (de_ix (de_fld T.o_Line_parts (de_var 0)) (de_op oSub (de_fld T.o_Line_at (de_var 0)) de_int)) da_nil))))))), vc_Line_takes⟩
theorem ok_Line_ends (T : Txt K mg) : FnG P w K mg base 4 T.f_Line_ends T.fd_Line_ends ["self"] sp_Line_ends :=
  FunG.ok (N := N_Line_ends) T.F_Line_ends sc_Line_ends len_Line_ends fun cdv A outer s H E hA hr => ⟨t_Line_ends, (by exact (dss_one (ds_if (dt_not (dt_tru (de_meth0 T.g_Line T.k_Line T.e_Line_is_over (ok_Line_is_over T) hA (hr.mono (by decide)) T.b_Line_is_over (takes_of rfl rfl rfl rfl) (de_var 0))))
  (dss_one (ds_expr (de_meth0 T.g_Line T.k_Line T.e_Line_fails (ok_Line_fails T) hA (hr.mono (by decide)) T.b_Line_fails (takes_of rfl rfl rfl rfl) (de_var 0))))
  dss_nil))), vc_Line_ends⟩
theorem ok_read_inputs (T : Txt K mg) : FnG P w K mg base 5 T.f_read_inputs T.fd_read_inputs ["line"] sp_read_inputs :=
  FunG.ok (N := N_read_inputs) T.F_read_inputs sc_read_inputs len_read_inputs fun cdv A outer s H E hA hr => ⟨t_read_inputs, (by exact (dss_cons (ds_expr (de_meth T.g_Line T.k_Line T.e_Line_takes (ok_Line_takes T) hA (hr.mono (by decide)) T.b_Line_takes (takes_of rfl rfl rfl rfl) (de_var 0) (da_cons (de_lst (da_cons de_str da_nil)) da_nil)))
  (dss_cons (ds_set (i := 1) sc_read_inputs.nd rfl (Or.inl rfl) (de_meth T.g_Line T.k_Line T.e_Line_takes (ok_Line_takes T) hA (hr.mono (by decide)) T.b_Line_takes (takes_of rfl rfl rfl rfl) (de_var 0) (da_cons (de_lc (own := [("many", 2)]) true (.nm 2) rfl sc_read_inputs.nd (di_rng1 (by rfl) T.n_range (da_cons (de_op oAdd (de_glob (fun _ _ => .int _) (by rfl) T.m_MOST_INPUTS ⟨_, rfl⟩) de_int) da_nil)) (blkOk_by (N := N_read_inputs) (sc := defScope s_read_inputs) (by decide +kernel)) (by decide) (fun _ _ _ _ _ => by exact (pg_name (i := 2) sc_read_inputs.nd rfl (Or.inl rfl))) (fun _ _ _ _ _ => by exact dts_nil) (fun _ _ _ _ _ => by exact (de_callTy cStr (by rfl) T.n_str (by decide +kernel) (da_cons (de_var 2) da_nil)))) da_nil)))
  (dss_cons (ds_expr (de_meth0 T.g_Line T.k_Line T.e_Line_ends (ok_Line_ends T) hA (hr.mono (by decide)) T.b_Line_ends (takes_of rfl rfl rfl rfl) (de_var 0)))
  (dss_one (ds_ret (de_var 1))))))), vc_read_inputs⟩
theorem ok_Line_init (T : Txt K mg) : FnG P w K mg base 1 T.f_Line_init T.fd_Line_init ["self", "number", "parts"] sp_Line_init :=
  FunG.ok (N := N_Line_init) T.F_Line_init sc_Line_init len_Line_init fun cdv A outer s H E hA hr => ⟨t_Line_init, (by exact (dss_cons (ds_setF T.o_Line_number (de_var 0) (de_var 1))
  (dss_cons (ds_setF T.o_Line_parts (de_var 0) (de_var 2))
  (dss_one (ds_setF T.o_Line_at (de_var 0) de_int))))), vc_Line_init⟩
theorem ok_line_at (T : Txt K mg) : FnG P w K mg base 3 T.f_line_at T.fd_line_at ["lines", "index"] sp_line_at :=
  FunG.ok (N := N_line_at) T.F_line_at sc_line_at len_line_at fun cdv A outer s H E hA hr => ⟨t_line_at, (by exact (dss_one (ds_ret (de_make false T.g_Line T.mk_Line (ok_Line_init T) hA (hr.mono (by decide)) (by rfl) T.mc_Line T.b_Line_init (takes_of rfl rfl rfl rfl) (da_cons (de_op oAdd (de_var 1) de_int) (da_cons (de_ifExp (dt_cmp oLt (de_var 1) (de_callB cLen (by rfl) T.n_len (by decide +kernel) (da_cons (de_var 0) da_nil)) (nomark _)) (de_split true (de_ix (de_var 0) (de_var 1)) de_str) (de_lst da_nil)) da_nil)))))), vc_line_at⟩
theorem ok_is_coefficient (T : Txt K mg) : FnG P w K mg base 1 T.f_is_coefficient T.fd_is_coefficient ["word"] sp_is_coefficient :=
  FunG.ok (N := N_is_coefficient) T.F_is_coefficient sc_is_coefficient len_is_coefficient fun cdv A outer s H E hA hr => ⟨t_is_coefficient, (by exact (dss_cons (ds_set (i := 1) sc_is_coefficient.nd rfl (Or.inl rfl) (de_ifExp (dt_cmp (oEq (hu64 hr)) (de_sl (de_var 0) do_none (do_some de_int)) de_str (nomark _)) (de_sl (de_var 0) (do_some de_int) do_none) (de_var 0)))
  (dss_cons (ds_if (DW.pt (dw_or (dt_not (dt_chain oLe oLe de_int (de_callB cLen (by rfl) T.n_len (by decide +kernel) (da_cons (de_var 1) da_nil)) de_int)) (dw_or1 (dt_not (dt_tru (de_callB (cAll rfl) (by rfl) T.n_all (by decide +kernel) (da_cons (de_lc (own := [("sign", 2)]) true (.nm 2) rfl sc_is_coefficient.nd (di_sq (de_var 1)) (blkOk_by (N := N_is_coefficient) (sc := defScope s_is_coefficient) (by decide +kernel)) (by decide) (fun _ _ _ _ _ => by exact (pg_name (i := 2) sc_is_coefficient.nd rfl (Or.inl rfl))) (fun _ _ _ _ _ => by exact dts_nil) (fun _ _ _ _ _ => by exact (de_cmp (oIn (hu65 hr)) (de_var 2) (de_glob (fun _ _ => .str _) (by rfl) T.m_DIGITS ⟨_, rfl⟩) (by with_unfolding_all rfl)))) da_nil)))))))
  (dss_one (ds_ret de_bl))
  dss_nil)
  (dss_one (ds_ret (de_or (de_cmp (oEq (hu64 hr)) (de_var 0) de_str (nomark _)) (de_one (de_cmp (oNe (hu64 hr)) (de_ix (de_var 1) de_int) de_str (nomark _))))))))), vc_is_coefficient⟩
theorem ok_read_coefficient (T : Txt K mg) : FnG P w K mg base 4 T.f_read_coefficient T.fd_read_coefficient ["line"] sp_read_coefficient :=
  FunG.ok (N := N_read_coefficient) T.F_read_coefficient sc_read_coefficient len_read_coefficient fun cdv A outer s H E hA hr => ⟨t_read_coefficient, (by exact (dss_cons (ds_set (i := 1) sc_read_coefficient.nd rfl (Or.inl rfl) (de_meth0 T.g_Line T.k_Line T.e_Line_sees (ok_Line_sees T) hA (hr.mono (by decide)) T.b_Line_sees (takes_of rfl rfl rfl rfl) (de_var 0)))
  (dss_cons (ds_if (dt_not (dt_tru (de_call (ok_is_coefficient T) hA (hr.mono (by decide)) (by rfl) T.m_is_coefficient T.F_is_coefficient.kp T.b_is_coefficient (takes_of rfl rfl rfl rfl) (da_cons (de_var 1) da_nil))))
  (dss_one (ds_expr (de_meth0 T.g_Line T.k_Line T.e_Line_fails (ok_Line_fails T) hA (hr.mono (by decide)) T.b_Line_fails (takes_of rfl rfl rfl rfl) (de_var 0))))
  dss_nil)
  (dss_cons (ds_setF T.o_Line_at (de_var 0) (de_op oAdd (de_fld T.o_Line_at (de_var 0)) de_int))
  (dss_one (ds_ret (de_callTy cIntS (by rfl) T.n_int (by decide +kernel) (da_cons (de_var 1) da_nil)))))))), vc_read_coefficient⟩
theorem ok_read_term (T : Txt K mg) : FnG P w K mg base 5 T.f_read_term T.fd_read_term ["line", "names"] sp_read_term :=
  FunG.ok (N := N_read_term) T.F_read_term sc_read_term len_read_term fun cdv A outer s H E hA hr => ⟨t_read_term, (by exact (dss_cons (ds_par (i := 2) (j := 3) rfl sc_read_term.nd rfl rfl (by decide) rfl rfl (da_cons (de_call (ok_read_coefficient T) hA (hr.mono (by decide)) (by rfl) T.m_read_coefficient T.F_read_coefficient.kp T.b_read_coefficient (takes_of rfl rfl rfl rfl) (da_cons (de_var 0) da_nil)) (da_cons (de_lstM da_nil) da_nil)) (by rfl))
  (dss_cons (ds_while (passes_of rfl) (DW.pt (dw_and (dt_not (dt_tru (de_meth0 T.g_Line T.k_Line T.e_Line_is_over (ok_Line_is_over T) hA (hr.mono (by decide)) T.b_Line_is_over (takes_of rfl rfl rfl rfl) (de_var 0)))) (dw_and1 (dt_cmp (oNe (hu64 hr)) (de_meth0 T.g_Line T.k_Line T.e_Line_sees (ok_Line_sees T) hA (hr.mono (by decide)) T.b_Line_sees (takes_of rfl rfl rfl rfl) (de_var 0)) de_str (nomark _)))))
  (dss_cons (ds_if (dt_cmp (oEq (hu64 hr)) (de_callB cLen (by rfl) T.n_len (by decide +kernel) (da_cons (de_var 3) da_nil)) (de_glob (fun _ _ => .int _) (by rfl) T.m_MOST_PLACES ⟨_, rfl⟩) (nomark _))
  (dss_one (ds_expr (de_meth0 T.g_Line T.k_Line T.e_Line_fails (ok_Line_fails T) hA (hr.mono (by decide)) T.b_Line_fails (takes_of rfl rfl rfl rfl) (de_var 0))))
  dss_nil)
  (dss_one (ds_expr (de_append (de_var 3) (da_cons (de_meth T.g_Line T.k_Line T.e_Line_takes (ok_Line_takes T) hA (hr.mono (by decide)) T.b_Line_takes (takes_of rfl rfl rfl rfl) (de_var 0) (da_cons (de_var 1) da_nil)) da_nil))))))
  (dss_frz 3 (dss_one (ds_ret (de_tup (da_cons (de_var 2) (da_cons (de_callTy cTuple (by rfl) T.n_tuple (by decide +kernel) (da_cons (de_var 3) da_nil)) da_nil))))))))), vc_read_term⟩
theorem ok_read_terms (T : Txt K mg) : FnG P w K mg base 6 T.f_read_terms T.fd_read_terms ["line", "names"] sp_read_terms :=
  FunG.ok (N := N_read_terms) T.F_read_terms sc_read_terms len_read_terms fun cdv A outer s H E hA hr => ⟨t_read_terms, (by exact (dss_cons (ds_if (dt_cmp (oEq (hu64 hr)) (de_meth0 T.g_Line T.k_Line T.e_Line_sees (ok_Line_sees T) hA (hr.mono (by decide)) T.b_Line_sees (takes_of rfl rfl rfl rfl) (de_var 0)) de_str (nomark _))
  (dss_cons (ds_expr (de_meth T.g_Line T.k_Line T.e_Line_takes (ok_Line_takes T) hA (hr.mono (by decide)) T.b_Line_takes (takes_of rfl rfl rfl rfl) (de_var 0) (da_cons (de_lst (da_cons de_str da_nil)) da_nil)))
  (dss_cons (ds_expr (de_meth0 T.g_Line T.k_Line T.e_Line_ends (ok_Line_ends T) hA (hr.mono (by decide)) T.b_Line_ends (takes_of rfl rfl rfl rfl) (de_var 0)))
  (dss_one (ds_ret (de_tup da_nil)))))
  dss_nil)
  (dss_cons (ds_set (i := 2) sc_read_terms.nd rfl (Or.inl rfl) (de_lstM (da_cons (de_call (ok_read_term T) hA (hr.mono (by decide)) (by rfl) T.m_read_term T.F_read_term.kp T.b_read_term (takes_of rfl rfl rfl rfl) (da_cons (de_var 0) (da_cons (de_var 1) da_nil))) da_nil)))
  (dss_cons (ds_while (passes_of rfl) (dt_not (dt_tru (de_meth0 T.g_Line T.k_Line T.e_Line_is_over (ok_Line_is_over T) hA (hr.mono (by decide)) T.b_Line_is_over (takes_of rfl rfl rfl rfl) (de_var 0))))
  (dss_cons (ds_if (dt_cmp (oEq (hu64 hr)) (de_callB cLen (by rfl) T.n_len (by decide +kernel) (da_cons (de_var 2) da_nil)) (de_glob (fun _ _ => .int _) (by rfl) T.m_MOST_TERMS ⟨_, rfl⟩) (nomark _))
  (dss_one (ds_expr (de_meth0 T.g_Line T.k_Line T.e_Line_fails (ok_Line_fails T) hA (hr.mono (by decide)) T.b_Line_fails (takes_of rfl rfl rfl rfl) (de_var 0))))
  dss_nil)
  (dss_cons (ds_expr (de_meth T.g_Line T.k_Line T.e_Line_takes (ok_Line_takes T) hA (hr.mono (by decide)) T.b_Line_takes (takes_of rfl rfl rfl rfl) (de_var 0) (da_cons (de_lst (da_cons de_str da_nil)) da_nil)))
  (dss_one (ds_expr (de_append (de_var 2) (da_cons (de_call (ok_read_term T) hA (hr.mono (by decide)) (by rfl) T.m_read_term T.F_read_term.kp T.b_read_term (takes_of rfl rfl rfl rfl) (da_cons (de_var 0) (da_cons (de_var 1) da_nil))) da_nil)))))))
  (dss_frz 2 (dss_one (ds_ret (de_callTy cTuple (by rfl) T.n_tuple (by decide +kernel) (da_cons (de_var 2) da_nil))))))))), vc_read_terms⟩
theorem ok_read_row (T : Txt K mg) : FnG P w K mg base 7 T.f_read_row T.fd_read_row ["line", "names", "index"] sp_read_row :=
  FunG.ok (N := N_read_row) T.F_read_row sc_read_row len_read_row fun cdv A outer s H E hA hr => ⟨t_read_row, (by exact (dss_cons (ds_expr (de_meth T.g_Line T.k_Line T.e_Line_takes (ok_Line_takes T) hA (hr.mono (by decide)) T.b_Line_takes (takes_of rfl rfl rfl rfl) (de_var 0) (da_cons (de_lst (da_cons (de_fstr (DJ.cons de_str (DJ.cons (de_fmt (de_var 2)) DJ.nil))) da_nil)) da_nil)))
  (dss_cons (ds_expr (de_meth T.g_Line T.k_Line T.e_Line_takes (ok_Line_takes T) hA (hr.mono (by decide)) T.b_Line_takes (takes_of rfl rfl rfl rfl) (de_var 0) (da_cons (de_lst (da_cons de_str da_nil)) da_nil)))
  (dss_cons (ds_set (i := 3) sc_read_row.nd rfl (Or.inl rfl) (de_ix (de_tup (da_cons de_str (da_cons de_str da_nil))) (de_meth T.g_Line T.k_Line T.e_Line_takes (ok_Line_takes T) hA (hr.mono (by decide)) T.b_Line_takes (takes_of rfl rfl rfl rfl) (de_var 0) (da_cons (de_lst (da_cons de_str (da_cons de_str da_nil))) da_nil))))
  (dss_one (ds_ret (de_tup (da_cons (de_var 3) (da_cons (de_call (ok_read_terms T) hA (hr.mono (by decide)) (by rfl) T.m_read_terms T.F_read_terms.kp T.b_read_terms (takes_of rfl rfl rfl rfl) (da_cons (de_var 0) (da_cons (de_var 1) da_nil))) da_nil))))))))), vc_read_row⟩
theorem ok_place_names (T : Txt K mg) : FnG P w K mg base 1 T.f_place_names T.fd_place_names ["inputs", "rows"] sp_place_names :=
  FunG.ok (N := N_place_names) T.F_place_names sc_place_names len_place_names fun cdv A outer s H E hA hr => ⟨t_place_names, (by exact (dss_one (ds_ret (de_op oAdd (de_callTy cList (by rfl) T.n_list (by decide +kernel) (da_cons (de_sl (de_glob (T.r_NAMES) (by rfl) T.m_NAMES rfl) do_none (do_some (de_var 0))) da_nil)) (de_lc (own := [("index", 2)]) true (.nm 2) rfl sc_place_names.nd (di_rng1 (by rfl) T.n_range (da_cons (de_var 1) da_nil)) (blkOk_by (N := N_place_names) (sc := defScope s_place_names) (by decide +kernel)) (by decide) (fun _ _ _ _ _ => by exact (pg_name (i := 2) sc_place_names.nd rfl (Or.inl rfl))) (fun _ _ _ _ _ => by exact dts_nil) (fun _ _ _ _ _ => by exact (de_fstr (DJ.cons de_str (DJ.cons (de_fmt (de_var 2)) DJ.nil))))))))), vc_place_names⟩
theorem ok_read_outs (T : Txt K mg) : FnG P w K mg base 5 T.f_read_outs T.fd_read_outs ["line", "names"] sp_read_outs :=
  FunG.ok (N := N_read_outs) T.F_read_outs sc_read_outs len_read_outs fun cdv A outer s H E hA hr => ⟨t_read_outs, (by exact (dss_cons (ds_expr (de_meth T.g_Line T.k_Line T.e_Line_takes (ok_Line_takes T) hA (hr.mono (by decide)) T.b_Line_takes (takes_of rfl rfl rfl rfl) (de_var 0) (da_cons (de_lst (da_cons de_str da_nil)) da_nil)))
  (dss_cons (ds_set (i := 2) sc_read_outs.nd rfl (Or.inl rfl) (de_lstM (da_cons (de_meth T.g_Line T.k_Line T.e_Line_takes (ok_Line_takes T) hA (hr.mono (by decide)) T.b_Line_takes (takes_of rfl rfl rfl rfl) (de_var 0) (da_cons (de_var 1) da_nil)) da_nil)))
  (dss_cons (ds_while (passes_of rfl) (dt_not (dt_tru (de_meth0 T.g_Line T.k_Line T.e_Line_is_over (ok_Line_is_over T) hA (hr.mono (by decide)) T.b_Line_is_over (takes_of rfl rfl rfl rfl) (de_var 0))))
  (dss_cons (ds_if (dt_cmp (oEq (hu64 hr)) (de_callB cLen (by rfl) T.n_len (by decide +kernel) (da_cons (de_var 2) da_nil)) (de_glob (fun _ _ => .int _) (by rfl) T.m_MOST_OUTS ⟨_, rfl⟩) (nomark _))
  (dss_one (ds_expr (de_meth0 T.g_Line T.k_Line T.e_Line_fails (ok_Line_fails T) hA (hr.mono (by decide)) T.b_Line_fails (takes_of rfl rfl rfl rfl) (de_var 0))))
  dss_nil)
  (dss_one (ds_expr (de_append (de_var 2) (da_cons (de_meth T.g_Line T.k_Line T.e_Line_takes (ok_Line_takes T) hA (hr.mono (by decide)) T.b_Line_takes (takes_of rfl rfl rfl rfl) (de_var 0) (da_cons (de_var 1) da_nil)) da_nil))))))
  (dss_frz 2 (dss_one (ds_ret (de_callTy cTuple (by rfl) T.n_tuple (by decide +kernel) (da_cons (de_var 2) da_nil))))))))), vc_read_outs⟩
theorem ok_read_program (T : Txt K mg) : FnG P w K mg base 8 T.f_read_program T.fd_read_program ["text"] sp_read_program :=
  FunG.ok (N := N_read_program) T.F_read_program sc_read_program len_read_program fun cdv A outer s H E hA hr => ⟨t_read_program, (by exact (dss_cons (ds_par (i := 4) (j := 5) rfl sc_read_program.nd rfl rfl (by decide) rfl rfl (da_cons (de_split true (de_var 0) de_str) (da_cons (de_lstM da_nil) da_nil)) (by rfl))
  (dss_cons (ds_set (i := 1) sc_read_program.nd rfl (Or.inl rfl) (de_call (ok_read_inputs T) hA (hr.mono (by decide)) (by rfl) T.m_read_inputs T.F_read_inputs.kp T.b_read_inputs (takes_of rfl rfl rfl rfl) (da_cons (de_call (ok_line_at T) hA (hr.mono (by decide)) (by rfl) T.m_line_at T.F_line_at.kp T.b_line_at (takes_of rfl rfl rfl rfl) (da_cons (de_var 4) (da_cons de_int da_nil))) da_nil)))
  (dss_cons (ds_set (i := 2) sc_read_program.nd rfl (Or.inl rfl) (de_call (ok_line_at T) hA (hr.mono (by decide)) (by rfl) T.m_line_at T.F_line_at.kp T.b_line_at (takes_of rfl rfl rfl rfl) (da_cons (de_var 4) (da_cons de_int da_nil))))
  (dss_cons (ds_while (passes_of rfl) (DW.pt (dw_and (dt_cmp (oEq (hu64 hr)) (de_meth0 T.g_Line T.k_Line T.e_Line_sees (ok_Line_sees T) hA (hr.mono (by decide)) T.b_Line_sees (takes_of rfl rfl rfl rfl) (de_var 2)) (de_fstr (DJ.cons de_str (DJ.cons (de_fmt (de_callB cLen (by rfl) T.n_len (by decide +kernel) (da_cons (de_var 5) da_nil))) DJ.nil))) (nomark _)) (dw_and1 (dt_cmp oLt (de_callB cLen (by rfl) T.n_len (by decide +kernel) (da_cons (de_var 5) da_nil)) (de_glob (fun _ _ => .int _) (by rfl) T.m_MOST_ROWS ⟨_, rfl⟩) (nomark _)))))
  (dss_cons (ds_expr (de_append (de_var 5) (da_cons (de_call (ok_read_row T) hA (hr.mono (by decide)) (by rfl) T.m_read_row T.F_read_row.kp T.b_read_row (takes_of rfl rfl rfl rfl) (da_cons (de_var 2) (da_cons (de_call (ok_place_names T) hA (hr.mono (by decide)) (by rfl) T.m_place_names T.F_place_names.kp T.b_place_names (takes_of rfl rfl rfl rfl) (da_cons (de_var 1) (da_cons (de_callB cLen (by rfl) T.n_len (by decide +kernel) (da_cons (de_var 5) da_nil)) da_nil))) (da_cons (de_callB cLen (by rfl) T.n_len (by decide +kernel) (da_cons (de_var 5) da_nil)) da_nil)))) da_nil)))
  (dss_one (ds_set (i := 2) sc_read_program.nd rfl (Or.inl rfl) (de_call (ok_line_at T) hA (hr.mono (by decide)) (by rfl) T.m_line_at T.F_line_at.kp T.b_line_at (takes_of rfl rfl rfl rfl) (da_cons (de_var 4) (da_cons (de_op oAdd (de_callB cLen (by rfl) T.n_len (by decide +kernel) (da_cons (de_var 5) da_nil)) de_int) da_nil)))))))
  (dss_frz 5 (dss_cons (ds_set (i := 3) sc_read_program.nd rfl (Or.inl rfl) (de_call (ok_read_outs T) hA (hr.mono (by decide)) (by rfl) T.m_read_outs T.F_read_outs.kp T.b_read_outs (takes_of rfl rfl rfl rfl) (da_cons (de_var 2) (da_cons (de_call (ok_place_names T) hA (hr.mono (by decide)) (by rfl) T.m_place_names T.F_place_names.kp T.b_place_names (takes_of rfl rfl rfl rfl) (da_cons (de_var 1) (da_cons (de_callB cLen (by rfl) T.n_len (by decide +kernel) (da_cons (de_var 5) da_nil)) da_nil))) da_nil))))
  (dss_cons (ds_expr (de_meth0 T.g_Line T.k_Line T.e_Line_ends (ok_Line_ends T) hA (hr.mono (by decide)) T.b_Line_ends (takes_of rfl rfl rfl rfl) (de_call (ok_line_at T) hA (hr.mono (by decide)) (by rfl) T.m_line_at T.F_line_at.kp T.b_line_at (takes_of rfl rfl rfl rfl) (da_cons (de_var 4) (da_cons (de_op oAdd (de_callB cLen (by rfl) T.n_len (by decide +kernel) (da_cons (de_var 5) da_nil)) de_int) da_nil)))))
  (dss_one (ds_ret (de_tup (da_cons (de_var 1) (da_cons (de_callTy cTuple (by rfl) T.n_tuple (by decide +kernel) (da_cons (de_var 5) da_nil)) (da_cons (de_var 3) da_nil)))))))))))))), vc_read_program⟩
theorem ok_law_told (T : Txt K mg) : FnG P w K mg base 9 T.f_law_told T.fd_law_told ["_law_text"] sp_law_told :=
  FunG.ok (N := N_law_told) T.F_law_told sc_law_told len_law_told fun cdv A outer s H E hA hr => ⟨t_law_told, (by exact (dss_cons (ds_tryM sc_law_told.nd (takes_of rfl rfl rfl rfl) (fun W' pn xe tk po => by exact (dss_one (ds_set (i := 2) sc_law_told.nd rfl (Or.inl rfl) (de_call (ok_read_program T) hA (hr.mono (by decide)) (by rfl) T.m_read_program T.F_read_program.kp T.b_read_program tk (da_cons (de_var 0) da_nil))))) (DClsOk.named (i := 1) rfl rfl (by rfl) T.mc_BadText T.xt_BadText (fun n C' hC a oe d pn hz hf => by exact (dss_one (ds_ret (de_tup (da_cons de_str (da_cons (de_tup (da_cons (de_excF hC T.xf_line hz hf (de_var 1)) (da_cons (de_excF hC T.xf_word hz hf (de_var 1)) da_nil))) da_nil)))))) (DClsOk.only (by rfl) T.mc_RoundError T.xt_RoundError (fun n C' hC a oe d pn hz hf => by exact (dss_one (ds_ret (de_tup (da_cons de_str (da_cons de_non da_nil)))))) DClsOk.nil)))
  (dss_one (ds_ret (de_tup (da_cons de_str (da_cons (de_var 2) da_nil))))))), vc_law_told⟩
theorem ok_law (T : Txt K mg) : FnG P w K mg base 10 T.f_law T.fd_law ["_law_script"] sp_law :=
  FunG.ok (N := N_law) T.F_law sc_law len_law fun cdv A outer s H E hA hr => ⟨t_law, (by exact (dss_cons (ds_set (i := 1) sc_law.nd rfl (Or.inl rfl) (de_call (ok_law_feed T) hA (hr.mono (by decide)) (by rfl) T.m_law_feed T.F_law_feed.kp T.b_law_feed (takes_of rfl rfl rfl rfl) (da_cons (de_var 0) da_nil)))
  (dss_cons (ds_for (passes_of rfl) rfl (di_rng1 (by rfl) T.n_range (da_cons de_int da_nil)) (dg_name sc_law.nd (i := 2) rfl (Or.inl rfl))
  (dss_cons (ds_par (i := 5) (j := 6) rfl sc_law.nd rfl rfl (by decide) rfl rfl (da_cons (de_call (ok_law_draw T) hA (hr.mono (by decide)) (by rfl) T.m_law_draw T.F_law_draw.kp T.b_law_draw (takes_of rfl rfl rfl rfl) (da_cons (de_var 1) (da_cons de_int da_nil))) (da_cons (de_call (ok_law_draw T) hA (hr.mono (by decide)) (by rfl) T.m_law_draw T.F_law_draw.kp T.b_law_draw (takes_of rfl rfl rfl rfl) (da_cons (de_var 1) (da_cons de_int da_nil))) da_nil)) (by rfl))
  (dss_cons (ds_asg (de_call (ok_law_beyond T) hA (hr.mono (by decide)) (by rfl) T.m_law_beyond T.F_law_beyond.kp T.b_law_beyond (takes_of rfl rfl rfl rfl) (da_cons (de_var 1) (da_cons (de_var 5) (da_cons (de_op oAdd de_int (de_call (ok_law_draw T) hA (hr.mono (by decide)) (by rfl) T.m_law_draw T.F_law_draw.kp T.b_law_draw (takes_of rfl rfl rfl rfl) (da_cons (de_var 1) (da_cons de_int da_nil)))) (da_cons (de_call (ok_law_draw T) hA (hr.mono (by decide)) (by rfl) T.m_law_draw T.F_law_draw.kp T.b_law_draw (takes_of rfl rfl rfl rfl) (da_cons (de_var 1) (da_cons de_int da_nil))) (da_cons (de_var 6) da_nil)))))) (dg_tup rfl (dgs_cons (dg_name sc_law.nd (i := 7) rfl (Or.inl rfl)) (dgs_cons (dg_name sc_law.nd (i := 8) rfl (Or.inl rfl)) dgs_nil))))
  (dss_cons (ds_set (i := 4) sc_law.nd rfl (Or.inl rfl) (de_call (ok_law_told T) hA (hr.mono (by decide)) (by rfl) T.m_law_told T.F_law_told.kp T.b_law_told (takes_of rfl rfl rfl rfl) (da_cons (de_var 7) da_nil)))
  (dss_one (ds_if (DW.pt (dw_or (DW.pt (dw_and (dt_cmp (oEq (hu64 hr)) (de_var 6) de_int (nomark _)) (dw_and1 (dt_cmp (oNe (hu64 hr)) (de_callB (cRepr hA (hu70 hr)) (by rfl) T.n_repr (by decide +kernel) (da_cons (de_var 4) da_nil)) (de_callB (cRepr hA (hu70 hr)) (by rfl) T.n_repr (by decide +kernel) (da_cons (de_tup (da_cons de_str (da_cons (de_var 8) da_nil))) da_nil)) (nomark _))))) (dw_or1 (DW.pt (dw_and (dt_cmp (oEq (hu64 hr)) (de_var 6) de_int (nomark _)) (dw_and1 (dt_cmp (oNe (hu64 hr)) (de_ix (de_var 4) de_int) de_str (nomark _))))))))
  (dss_one (ds_ret de_bl))
  dss_nil))))))
  (dss_cons (ds_set (i := 3) sc_law.nd rfl (Or.inl rfl) (de_call (ok_law_lines T) hA (hr.mono (by decide)) (by rfl) T.m_law_lines T.F_law_lines.kp T.b_law_lines (takes_of rfl rfl rfl rfl) (da_cons (de_var 1) (da_cons de_int (da_cons de_int da_nil)))))
  (dss_cons (ds_if (dt_cmp (oNe (hu64 hr)) (de_ix (de_call (ok_law_told T) hA (hr.mono (by decide)) (by rfl) T.m_law_told T.F_law_told.kp T.b_law_told (takes_of rfl rfl rfl rfl) (da_cons (de_join de_str (da_cons (de_op oAdd (de_sl (de_var 3) do_none (do_some de_int)) (de_lst (da_cons de_str da_nil))) da_nil)) da_nil)) de_int) de_str (nomark _))
  (dss_one (ds_ret de_bl))
  dss_nil)
  (dss_one (ds_ret (de_cmp (oEq (hu64 hr)) (de_callB (cRepr hA (hu70 hr)) (by rfl) T.n_repr (by decide +kernel) (da_cons (de_lst (da_cons (de_call (ok_law_told T) hA (hr.mono (by decide)) (by rfl) T.m_law_told T.F_law_told.kp T.b_law_told (takes_of rfl rfl rfl rfl) (da_cons (de_join de_str (da_cons (de_op oAdd (de_var 3) (de_lst (da_cons de_str da_nil))) da_nil)) da_nil)) (da_cons (de_call (ok_law_told T) hA (hr.mono (by decide)) (by rfl) T.m_law_told T.F_law_told.kp T.b_law_told (takes_of rfl rfl rfl rfl) (da_cons de_str da_nil)) da_nil))) da_nil)) (de_callB (cRepr hA (hu70 hr)) (by rfl) T.n_repr (by decide +kernel) (da_cons (de_lst (da_cons (de_tup (da_cons de_str (da_cons (de_tup (da_cons de_int (da_cons de_int da_nil))) da_nil))) (da_cons (de_tup (da_cons de_str (da_cons (de_tup (da_cons de_int (da_cons de_int da_nil))) da_nil))) da_nil))) da_nil)) (nomark _))))))))), vc_law⟩
end
theorem all_mk {l : PySem.W.OpenLaw} {w : World} {K : PySem.W.Frag} {h : Heap} {mg : Str → Option Value} {fa : Addr} (X : K.In h) (G : h.Ns mainGlobals mg) (hfa : mg "law" = some (.ref fa))
    {c_RoundError : Addr}
    {c_BadText : Addr}
    {c_Line : Addr}
    {f_law_feed : Addr} {od_law_feed an_law_feed : Option Addr} {sl_law_feed : Array (Option Value)} {oc_law_feed kV_law_feed dc_law_feed pm_law_feed cd_law_feed ct_law_feed : Value}
    {f_law_draw : Addr} {od_law_draw an_law_draw : Option Addr} {sl_law_draw : Array (Option Value)} {oc_law_draw kV_law_draw dc_law_draw pm_law_draw cd_law_draw ct_law_draw : Value}
    {f_law_one : Addr} {od_law_one an_law_one : Option Addr} {sl_law_one : Array (Option Value)} {oc_law_one kV_law_one dc_law_one pm_law_one cd_law_one ct_law_one : Value}
    {f_law_lines : Addr} {od_law_lines an_law_lines : Option Addr} {sl_law_lines : Array (Option Value)} {oc_law_lines kV_law_lines dc_law_lines pm_law_lines cd_law_lines ct_law_lines : Value}
    {f_law_beyond : Addr} {od_law_beyond an_law_beyond : Option Addr} {sl_law_beyond : Array (Option Value)} {oc_law_beyond kV_law_beyond dc_law_beyond pm_law_beyond cd_law_beyond ct_law_beyond : Value}
    {f_Line_is_over : Addr} {od_Line_is_over an_Line_is_over : Option Addr} {sl_Line_is_over : Array (Option Value)} {oc_Line_is_over kV_Line_is_over dc_Line_is_over pm_Line_is_over cd_Line_is_over ct_Line_is_over : Value}
    {f_Line_sees : Addr} {od_Line_sees an_Line_sees : Option Addr} {sl_Line_sees : Array (Option Value)} {oc_Line_sees kV_Line_sees dc_Line_sees pm_Line_sees cd_Line_sees ct_Line_sees : Value}
    {f_Line_fails : Addr} {od_Line_fails an_Line_fails : Option Addr} {sl_Line_fails : Array (Option Value)} {oc_Line_fails kV_Line_fails dc_Line_fails pm_Line_fails cd_Line_fails ct_Line_fails : Value}
    {f_Line_takes : Addr} {od_Line_takes an_Line_takes : Option Addr} {sl_Line_takes : Array (Option Value)} {oc_Line_takes kV_Line_takes dc_Line_takes pm_Line_takes cd_Line_takes ct_Line_takes : Value}
    {f_Line_ends : Addr} {od_Line_ends an_Line_ends : Option Addr} {sl_Line_ends : Array (Option Value)} {oc_Line_ends kV_Line_ends dc_Line_ends pm_Line_ends cd_Line_ends ct_Line_ends : Value}
    {f_read_inputs : Addr} {od_read_inputs an_read_inputs : Option Addr} {sl_read_inputs : Array (Option Value)} {oc_read_inputs kV_read_inputs dc_read_inputs pm_read_inputs cd_read_inputs ct_read_inputs : Value}
    {f_Line_init : Addr} {od_Line_init an_Line_init : Option Addr} {sl_Line_init : Array (Option Value)} {oc_Line_init kV_Line_init dc_Line_init pm_Line_init cd_Line_init ct_Line_init : Value}
    {f_line_at : Addr} {od_line_at an_line_at : Option Addr} {sl_line_at : Array (Option Value)} {oc_line_at kV_line_at dc_line_at pm_line_at cd_line_at ct_line_at : Value}
    {f_is_coefficient : Addr} {od_is_coefficient an_is_coefficient : Option Addr} {sl_is_coefficient : Array (Option Value)} {oc_is_coefficient kV_is_coefficient dc_is_coefficient pm_is_coefficient cd_is_coefficient ct_is_coefficient : Value}
    {f_read_coefficient : Addr} {od_read_coefficient an_read_coefficient : Option Addr} {sl_read_coefficient : Array (Option Value)} {oc_read_coefficient kV_read_coefficient dc_read_coefficient pm_read_coefficient cd_read_coefficient ct_read_coefficient : Value}
    {f_read_term : Addr} {od_read_term an_read_term : Option Addr} {sl_read_term : Array (Option Value)} {oc_read_term kV_read_term dc_read_term pm_read_term cd_read_term ct_read_term : Value}
    {f_read_terms : Addr} {od_read_terms an_read_terms : Option Addr} {sl_read_terms : Array (Option Value)} {oc_read_terms kV_read_terms dc_read_terms pm_read_terms cd_read_terms ct_read_terms : Value}
    {f_read_row : Addr} {od_read_row an_read_row : Option Addr} {sl_read_row : Array (Option Value)} {oc_read_row kV_read_row dc_read_row pm_read_row cd_read_row ct_read_row : Value}
    {f_place_names : Addr} {od_place_names an_place_names : Option Addr} {sl_place_names : Array (Option Value)} {oc_place_names kV_place_names dc_place_names pm_place_names cd_place_names ct_place_names : Value}
    {f_read_outs : Addr} {od_read_outs an_read_outs : Option Addr} {sl_read_outs : Array (Option Value)} {oc_read_outs kV_read_outs dc_read_outs pm_read_outs cd_read_outs ct_read_outs : Value}
    {f_read_program : Addr} {od_read_program an_read_program : Option Addr} {sl_read_program : Array (Option Value)} {oc_read_program kV_read_program dc_read_program pm_read_program cd_read_program ct_read_program : Value}
    {f_law_told : Addr} {od_law_told an_law_told : Option Addr} {sl_law_told : Array (Option Value)} {oc_law_told kV_law_told dc_law_told pm_law_told cd_law_told ct_law_told : Value}
    {f_law : Addr} {od_law an_law : Option Addr} {sl_law : Array (Option Value)} {oc_law kV_law dc_law pm_law cd_law ct_law : Value}
    {f_BadText_init : Addr} {od_BadText_init an_BadText_init : Option Addr} {sl_BadText_init : Array (Option Value)} {oc_BadText_init kV_BadText_init dc_BadText_init pm_BadText_init cd_BadText_init ct_BadText_init : Value}
    {nm_BadText : _} {q_BadText : _} {N_BadText : _} {bs_BadText : _} {bm_BadText : _} {sn_BadText : _} {sub_BadText : _} {ab_BadText : _} {col_BadText : _} {dd_BadText : _} {k0_BadText : _} {k1_BadText : _} {k2_BadText : _} {k3_BadText : _} {k5_BadText : _}
    {tk_MOST_ROWS : Tok}
    {tk_MOST_INPUTS : Tok}
    {tk_MOST_TERMS : Tok}
    {tk_MOST_PLACES : Tok}
    {tk_DIGITS : Tok}
    {w_NAMES : Addr} {od_NAMES : Option Addr} {its_NAMES : Array Value} {n_NAMES : Nat} {sl_NAMES : Array (Option Value)}
    {tk_MOST_OUTS : Tok}
    (a_RoundError : PySem.W.nsIn K mainGlobals "RoundError" = some (some (.ref c_RoundError)))
    (a_BadText : PySem.W.nsIn K mainGlobals "BadText" = some (some (.ref c_BadText)))
    (a_Line : PySem.W.nsIn K mainGlobals "Line" = some (some (.ref c_Line)))
    (sa_BadText : PySem.W.findIn K (.ref c_BadText) "__setattr__" = some (some (.builtin "object.__setattr__")))
    (kc_BadText : PySem.W.keepIn K (.ref c_BadText) = true)
    (ge_BadText : PySem.W.findIn K (.ref c_BadText) "__getattribute__" = some (some (.builtin "BaseException.__getattribute__")))
    (gk_BadText : PySem.W.findIn K (.ref c_BadText) "__getattr__" = some none)
    (sE_BadText : PySem.W.subIn K (.ref c_BadText) (.type "BaseException") = some true)
    (hd_BadText : PySem.W.hasDictIn K c_BadText = true)
    (hx_BadText : PySem.W.findIn K (.ref c_BadText) "__class__" = some (some (.builtin "object.__class__")))
    (oc1 : PySem.W.specialIn K (.builtin "object.__class__") "__get__" = some (some (.builtin "getset_descriptor.__get__")))
    (oc2 : PySem.W.takesIn K (.builtin "object.__class__") = some true)
    (om_BadText : PySem.W.mroIn K c_BadText (.type "object") = some true)
    (no_BadText_word : PySem.W.findIn K (.ref c_BadText) "word" = some none)
    (no_BadText_line : PySem.W.findIn K (.ref c_BadText) "line" = some none)
    (xl_BadText : K.lookup c_BadText = some (PySem.excClassObj nm_BadText q_BadText c_BadText N_BadText bs_BadText bm_BadText true sn_BadText sub_BadText ab_BadText col_BadText dd_BadText k0_BadText k1_BadText k2_BadText k3_BadText k5_BadText "ValueError.__new__"))
    (xr_BadText : PySem.HandSPX.refsVE bm_BadText = true)
    (xe_BadText : PySem.W.subIn K (.ref c_BadText) (.type "BaseException") = some true)
    (xt_BadText : PySem.W.typeIn K (.ref c_BadText) = some (.type "type"))
    (at_BadText_init : PySem.W.findIn K (.ref c_BadText) "__init__" = some (some (.ref f_BadText_init)))
    (ti_BadText : PySem.W.typeIn K (.ref f_BadText_init) = some (.type "function"))
    (pg_Line : PySem.W.plainGet K c_Line Str.empty = true)
    (hd_Line : PySem.W.hasDictIn K c_Line = true)
    (po_Line : PySem.W.plainOver K c_Line = true)
    (sa_Line : PySem.W.findIn K (.ref c_Line) "__setattr__" = some (some (.builtin "object.__setattr__")))
    (kc_Line : PySem.W.keepIn K (.ref c_Line) = true)
    (at_Line_sees : PySem.W.findIn K (.ref c_Line) "sees" = some (some (.ref f_Line_sees)))
    (fn_Line_sees : PySem.W.isFn K (.ref f_Line_sees) = true)
    (at_Line_ends : PySem.W.findIn K (.ref c_Line) "ends" = some (some (.ref f_Line_ends)))
    (fn_Line_ends : PySem.W.isFn K (.ref f_Line_ends) = true)
    (at_Line_takes : PySem.W.findIn K (.ref c_Line) "takes" = some (some (.ref f_Line_takes)))
    (fn_Line_takes : PySem.W.isFn K (.ref f_Line_takes) = true)
    (at_Line_fails : PySem.W.findIn K (.ref c_Line) "fails" = some (some (.ref f_Line_fails)))
    (fn_Line_fails : PySem.W.isFn K (.ref f_Line_fails) = true)
    (no_Line_at : PySem.W.findIn K (.ref c_Line) "at" = some none)
    (no_Line_parts : PySem.W.findIn K (.ref c_Line) "parts" = some none)
    (at_Line_is_over : PySem.W.findIn K (.ref c_Line) "is_over" = some (some (.ref f_Line_is_over)))
    (fn_Line_is_over : PySem.W.isFn K (.ref f_Line_is_over) = true)
    (no_Line_number : PySem.W.findIn K (.ref c_Line) "number" = some none)
    (ma_Line : PySem.W.makesIn K c_Line = true)
    (at_Line_init : PySem.W.findIn K (.ref c_Line) "__init__" = some (some (.ref f_Line_init)))
    (fn_Line_init : PySem.W.isFn K (.ref f_Line_init) = true)
    (sE_RoundError : PySem.W.subIn K (.ref c_RoundError) (.type "BaseException") = some true)
    (hd_RoundError : PySem.W.hasDictIn K c_RoundError = true)
    (tc_RoundError : PySem.W.typeIn K (.ref c_RoundError) = some (.type "type"))
    (sb_BadText_RoundError : PySem.W.subIn K (.ref c_BadText) (.ref c_RoundError) = some true)
    (tc_BadText : PySem.W.typeIn K (.ref c_BadText) = some (.type "type"))
    (sb_BadText_BadText : PySem.W.subIn K (.ref c_BadText) (.ref c_BadText) = some true)
    (a_MOST_ROWS : PySem.W.nsIn K mainGlobals "MOST_ROWS" = some (some (.int 12 tk_MOST_ROWS)))
    (a_MOST_INPUTS : PySem.W.nsIn K mainGlobals "MOST_INPUTS" = some (some (.int 4 tk_MOST_INPUTS)))
    (a_MOST_TERMS : PySem.W.nsIn K mainGlobals "MOST_TERMS" = some (some (.int 6 tk_MOST_TERMS)))
    (a_MOST_PLACES : PySem.W.nsIn K mainGlobals "MOST_PLACES" = some (some (.int 2 tk_MOST_PLACES)))
    (a_DIGITS : PySem.W.nsIn K mainGlobals "DIGITS" = some (some (.str "0123456789" tk_DIGITS)))
    (a_NAMES : PySem.W.nsIn K mainGlobals "NAMES" = some (some (.ref w_NAMES)))
    (l_NAMES : K.lookup w_NAMES = some ⟨.type "tuple", od_NAMES, .seq its_NAMES n_NAMES, sl_NAMES⟩)
    (v_NAMES : Vals [.str "a", .str "b", .str "c", .str "d"] its_NAMES.toList)
    (z_NAMES : its_NAMES.size ≤ sizeLine)
    (a_MOST_OUTS : PySem.W.nsIn K mainGlobals "MOST_OUTS" = some (some (.int 4 tk_MOST_OUTS)))
    (a_law_feed : PySem.W.nsIn K mainGlobals "_law_feed" = some (some (.ref f_law_feed)))
    (l_law_feed : K.lookup f_law_feed = some ⟨oc_law_feed, od_law_feed, .func (PySem.W.fnOf "_law_feed" "_law_feed" (defArgs s_law_feed) (defBody s_law_feed) (defScope s_law_feed) .none kV_law_feed dc_law_feed pm_law_feed an_law_feed cd_law_feed ct_law_feed), sl_law_feed⟩)
    (c_law_feed : PySem.W.codeIn K cd_law_feed "_law_feed" = true) (k_law_feed : PySem.W.keepIn K (.ref f_law_feed) = true)
    (a_law_draw : PySem.W.nsIn K mainGlobals "_law_draw" = some (some (.ref f_law_draw)))
    (l_law_draw : K.lookup f_law_draw = some ⟨oc_law_draw, od_law_draw, .func (PySem.W.fnOf "_law_draw" "_law_draw" (defArgs s_law_draw) (defBody s_law_draw) (defScope s_law_draw) .none kV_law_draw dc_law_draw pm_law_draw an_law_draw cd_law_draw ct_law_draw), sl_law_draw⟩)
    (c_law_draw : PySem.W.codeIn K cd_law_draw "_law_draw" = true) (k_law_draw : PySem.W.keepIn K (.ref f_law_draw) = true)
    (a_law_one : PySem.W.nsIn K mainGlobals "_law_one" = some (some (.ref f_law_one)))
    (l_law_one : K.lookup f_law_one = some ⟨oc_law_one, od_law_one, .func (PySem.W.fnOf "_law_one" "_law_one" (defArgs s_law_one) (defBody s_law_one) (defScope s_law_one) .none kV_law_one dc_law_one pm_law_one an_law_one cd_law_one ct_law_one), sl_law_one⟩)
    (c_law_one : PySem.W.codeIn K cd_law_one "_law_one" = true) (k_law_one : PySem.W.keepIn K (.ref f_law_one) = true)
    (a_law_lines : PySem.W.nsIn K mainGlobals "_law_lines" = some (some (.ref f_law_lines)))
    (l_law_lines : K.lookup f_law_lines = some ⟨oc_law_lines, od_law_lines, .func (PySem.W.fnOf "_law_lines" "_law_lines" (defArgs s_law_lines) (defBody s_law_lines) (defScope s_law_lines) .none kV_law_lines dc_law_lines pm_law_lines an_law_lines cd_law_lines ct_law_lines), sl_law_lines⟩)
    (c_law_lines : PySem.W.codeIn K cd_law_lines "_law_lines" = true) (k_law_lines : PySem.W.keepIn K (.ref f_law_lines) = true)
    (a_law_beyond : PySem.W.nsIn K mainGlobals "_law_beyond" = some (some (.ref f_law_beyond)))
    (l_law_beyond : K.lookup f_law_beyond = some ⟨oc_law_beyond, od_law_beyond, .func (PySem.W.fnOf "_law_beyond" "_law_beyond" (defArgs s_law_beyond) (defBody s_law_beyond) (defScope s_law_beyond) .none kV_law_beyond dc_law_beyond pm_law_beyond an_law_beyond cd_law_beyond ct_law_beyond), sl_law_beyond⟩)
    (c_law_beyond : PySem.W.codeIn K cd_law_beyond "_law_beyond" = true) (k_law_beyond : PySem.W.keepIn K (.ref f_law_beyond) = true)
    (l_Line_is_over : K.lookup f_Line_is_over = some ⟨oc_Line_is_over, od_Line_is_over, .func (PySem.W.fnOf "is_over" "Line.is_over" (defArgs s_Line_is_over) (defBody s_Line_is_over) (defScope s_Line_is_over) .none kV_Line_is_over dc_Line_is_over pm_Line_is_over an_Line_is_over cd_Line_is_over ct_Line_is_over), sl_Line_is_over⟩)
    (c_Line_is_over : PySem.W.codeIn K cd_Line_is_over "Line.is_over" = true) (k_Line_is_over : PySem.W.keepIn K (.ref f_Line_is_over) = true)
    (l_Line_sees : K.lookup f_Line_sees = some ⟨oc_Line_sees, od_Line_sees, .func (PySem.W.fnOf "sees" "Line.sees" (defArgs s_Line_sees) (defBody s_Line_sees) (defScope s_Line_sees) .none kV_Line_sees dc_Line_sees pm_Line_sees an_Line_sees cd_Line_sees ct_Line_sees), sl_Line_sees⟩)
    (c_Line_sees : PySem.W.codeIn K cd_Line_sees "Line.sees" = true) (k_Line_sees : PySem.W.keepIn K (.ref f_Line_sees) = true)
    (l_Line_fails : K.lookup f_Line_fails = some ⟨oc_Line_fails, od_Line_fails, .func (PySem.W.fnOf "fails" "Line.fails" (defArgs s_Line_fails) (defBody s_Line_fails) (defScope s_Line_fails) .none kV_Line_fails dc_Line_fails pm_Line_fails an_Line_fails cd_Line_fails ct_Line_fails), sl_Line_fails⟩)
    (c_Line_fails : PySem.W.codeIn K cd_Line_fails "Line.fails" = true) (k_Line_fails : PySem.W.keepIn K (.ref f_Line_fails) = true)
    (l_Line_takes : K.lookup f_Line_takes = some ⟨oc_Line_takes, od_Line_takes, .func (PySem.W.fnOf "takes" "Line.takes" (defArgs s_Line_takes) (defBody s_Line_takes) (defScope s_Line_takes) .none kV_Line_takes dc_Line_takes pm_Line_takes an_Line_takes cd_Line_takes ct_Line_takes), sl_Line_takes⟩)
    (c_Line_takes : PySem.W.codeIn K cd_Line_takes "Line.takes" = true) (k_Line_takes : PySem.W.keepIn K (.ref f_Line_takes) = true)
    (l_Line_ends : K.lookup f_Line_ends = some ⟨oc_Line_ends, od_Line_ends, .func (PySem.W.fnOf "ends" "Line.ends" (defArgs s_Line_ends) (defBody s_Line_ends) (defScope s_Line_ends) .none kV_Line_ends dc_Line_ends pm_Line_ends an_Line_ends cd_Line_ends ct_Line_ends), sl_Line_ends⟩)
    (c_Line_ends : PySem.W.codeIn K cd_Line_ends "Line.ends" = true) (k_Line_ends : PySem.W.keepIn K (.ref f_Line_ends) = true)
    (a_read_inputs : PySem.W.nsIn K mainGlobals "read_inputs" = some (some (.ref f_read_inputs)))
    (l_read_inputs : K.lookup f_read_inputs = some ⟨oc_read_inputs, od_read_inputs, .func (PySem.W.fnOf "read_inputs" "read_inputs" (defArgs s_read_inputs) (defBody s_read_inputs) (defScope s_read_inputs) .none kV_read_inputs dc_read_inputs pm_read_inputs an_read_inputs cd_read_inputs ct_read_inputs), sl_read_inputs⟩)
    (c_read_inputs : PySem.W.codeIn K cd_read_inputs "read_inputs" = true) (k_read_inputs : PySem.W.keepIn K (.ref f_read_inputs) = true)
    (l_Line_init : K.lookup f_Line_init = some ⟨oc_Line_init, od_Line_init, .func (PySem.W.fnOf "__init__" "Line.__init__" (defArgs s_Line_init) (defBody s_Line_init) (defScope s_Line_init) .none kV_Line_init dc_Line_init pm_Line_init an_Line_init cd_Line_init ct_Line_init), sl_Line_init⟩)
    (c_Line_init : PySem.W.codeIn K cd_Line_init "Line.__init__" = true) (k_Line_init : PySem.W.keepIn K (.ref f_Line_init) = true)
    (a_line_at : PySem.W.nsIn K mainGlobals "line_at" = some (some (.ref f_line_at)))
    (l_line_at : K.lookup f_line_at = some ⟨oc_line_at, od_line_at, .func (PySem.W.fnOf "line_at" "line_at" (defArgs s_line_at) (defBody s_line_at) (defScope s_line_at) .none kV_line_at dc_line_at pm_line_at an_line_at cd_line_at ct_line_at), sl_line_at⟩)
    (c_line_at : PySem.W.codeIn K cd_line_at "line_at" = true) (k_line_at : PySem.W.keepIn K (.ref f_line_at) = true)
    (a_is_coefficient : PySem.W.nsIn K mainGlobals "is_coefficient" = some (some (.ref f_is_coefficient)))
    (l_is_coefficient : K.lookup f_is_coefficient = some ⟨oc_is_coefficient, od_is_coefficient, .func (PySem.W.fnOf "is_coefficient" "is_coefficient" (defArgs s_is_coefficient) (defBody s_is_coefficient) (defScope s_is_coefficient) .none kV_is_coefficient dc_is_coefficient pm_is_coefficient an_is_coefficient cd_is_coefficient ct_is_coefficient), sl_is_coefficient⟩)
    (c_is_coefficient : PySem.W.codeIn K cd_is_coefficient "is_coefficient" = true) (k_is_coefficient : PySem.W.keepIn K (.ref f_is_coefficient) = true)
    (a_read_coefficient : PySem.W.nsIn K mainGlobals "read_coefficient" = some (some (.ref f_read_coefficient)))
    (l_read_coefficient : K.lookup f_read_coefficient = some ⟨oc_read_coefficient, od_read_coefficient, .func (PySem.W.fnOf "read_coefficient" "read_coefficient" (defArgs s_read_coefficient) (defBody s_read_coefficient) (defScope s_read_coefficient) .none kV_read_coefficient dc_read_coefficient pm_read_coefficient an_read_coefficient cd_read_coefficient ct_read_coefficient), sl_read_coefficient⟩)
    (c_read_coefficient : PySem.W.codeIn K cd_read_coefficient "read_coefficient" = true) (k_read_coefficient : PySem.W.keepIn K (.ref f_read_coefficient) = true)
    (a_read_term : PySem.W.nsIn K mainGlobals "read_term" = some (some (.ref f_read_term)))
    (l_read_term : K.lookup f_read_term = some ⟨oc_read_term, od_read_term, .func (PySem.W.fnOf "read_term" "read_term" (defArgs s_read_term) (defBody s_read_term) (defScope s_read_term) .none kV_read_term dc_read_term pm_read_term an_read_term cd_read_term ct_read_term), sl_read_term⟩)
    (c_read_term : PySem.W.codeIn K cd_read_term "read_term" = true) (k_read_term : PySem.W.keepIn K (.ref f_read_term) = true)
    (a_read_terms : PySem.W.nsIn K mainGlobals "read_terms" = some (some (.ref f_read_terms)))
    (l_read_terms : K.lookup f_read_terms = some ⟨oc_read_terms, od_read_terms, .func (PySem.W.fnOf "read_terms" "read_terms" (defArgs s_read_terms) (defBody s_read_terms) (defScope s_read_terms) .none kV_read_terms dc_read_terms pm_read_terms an_read_terms cd_read_terms ct_read_terms), sl_read_terms⟩)
    (c_read_terms : PySem.W.codeIn K cd_read_terms "read_terms" = true) (k_read_terms : PySem.W.keepIn K (.ref f_read_terms) = true)
    (a_read_row : PySem.W.nsIn K mainGlobals "read_row" = some (some (.ref f_read_row)))
    (l_read_row : K.lookup f_read_row = some ⟨oc_read_row, od_read_row, .func (PySem.W.fnOf "read_row" "read_row" (defArgs s_read_row) (defBody s_read_row) (defScope s_read_row) .none kV_read_row dc_read_row pm_read_row an_read_row cd_read_row ct_read_row), sl_read_row⟩)
    (c_read_row : PySem.W.codeIn K cd_read_row "read_row" = true) (k_read_row : PySem.W.keepIn K (.ref f_read_row) = true)
    (a_place_names : PySem.W.nsIn K mainGlobals "place_names" = some (some (.ref f_place_names)))
    (l_place_names : K.lookup f_place_names = some ⟨oc_place_names, od_place_names, .func (PySem.W.fnOf "place_names" "place_names" (defArgs s_place_names) (defBody s_place_names) (defScope s_place_names) .none kV_place_names dc_place_names pm_place_names an_place_names cd_place_names ct_place_names), sl_place_names⟩)
    (c_place_names : PySem.W.codeIn K cd_place_names "place_names" = true) (k_place_names : PySem.W.keepIn K (.ref f_place_names) = true)
    (a_read_outs : PySem.W.nsIn K mainGlobals "read_outs" = some (some (.ref f_read_outs)))
    (l_read_outs : K.lookup f_read_outs = some ⟨oc_read_outs, od_read_outs, .func (PySem.W.fnOf "read_outs" "read_outs" (defArgs s_read_outs) (defBody s_read_outs) (defScope s_read_outs) .none kV_read_outs dc_read_outs pm_read_outs an_read_outs cd_read_outs ct_read_outs), sl_read_outs⟩)
    (c_read_outs : PySem.W.codeIn K cd_read_outs "read_outs" = true) (k_read_outs : PySem.W.keepIn K (.ref f_read_outs) = true)
    (a_read_program : PySem.W.nsIn K mainGlobals "read_program" = some (some (.ref f_read_program)))
    (l_read_program : K.lookup f_read_program = some ⟨oc_read_program, od_read_program, .func (PySem.W.fnOf "read_program" "read_program" (defArgs s_read_program) (defBody s_read_program) (defScope s_read_program) .none kV_read_program dc_read_program pm_read_program an_read_program cd_read_program ct_read_program), sl_read_program⟩)
    (c_read_program : PySem.W.codeIn K cd_read_program "read_program" = true) (k_read_program : PySem.W.keepIn K (.ref f_read_program) = true)
    (a_law_told : PySem.W.nsIn K mainGlobals "_law_told" = some (some (.ref f_law_told)))
    (l_law_told : K.lookup f_law_told = some ⟨oc_law_told, od_law_told, .func (PySem.W.fnOf "_law_told" "_law_told" (defArgs s_law_told) (defBody s_law_told) (defScope s_law_told) .none kV_law_told dc_law_told pm_law_told an_law_told cd_law_told ct_law_told), sl_law_told⟩)
    (c_law_told : PySem.W.codeIn K cd_law_told "_law_told" = true) (k_law_told : PySem.W.keepIn K (.ref f_law_told) = true)
    (a_law : PySem.W.nsIn K mainGlobals "law" = some (some (.ref f_law)))
    (l_law : K.lookup f_law = some ⟨oc_law, od_law, .func (PySem.W.fnOf "law" "law" (defArgs s_law) (defBody s_law) (defScope s_law) .none kV_law dc_law pm_law an_law cd_law ct_law), sl_law⟩)
    (c_law : PySem.W.codeIn K cd_law "law" = true) (k_law : PySem.W.keepIn K (.ref f_law) = true)
    (l_BadText_init : K.lookup f_BadText_init = some ⟨oc_BadText_init, od_BadText_init, .func (PySem.W.fnOf "__init__" "BadText.__init__" (defArgs s_BadText_init) (defBody s_BadText_init) (defScope s_BadText_init) .none kV_BadText_init dc_BadText_init pm_BadText_init an_BadText_init cd_BadText_init ct_BadText_init), sl_BadText_init⟩)
    (c_BadText_init : PySem.W.codeIn K cd_BadText_init "BadText.__init__" = true) (k_BadText_init : PySem.W.keepIn K (.ref f_BadText_init) = true)
    (n_range : PySem.W.nsIn K mainGlobals "range" = some none)
    (n_repr : PySem.W.nsIn K mainGlobals "repr" = some none)
    (n_abs : PySem.W.nsIn K mainGlobals "abs" = some none)
    (n_int : PySem.W.nsIn K mainGlobals "int" = some none)
    (n_len : PySem.W.nsIn K mainGlobals "len" = some none)
    (n_str : PySem.W.nsIn K mainGlobals "str" = some none)
    (n_tuple : PySem.W.nsIn K mainGlobals "tuple" = some none)
    (n_all : PySem.W.nsIn K mainGlobals "all" = some none)
    (n_list : PySem.W.nsIn K mainGlobals "list" = some none) :
    ∃ fd : FuncData, (∀ (s : Shared) (v : Value), BindsTo s fd ⟨[v], []⟩ [("_law_script", v)]) ∧ ∀ base : Heap, K.In base → base.Ns mainGlobals mg → FnG l.prog w K mg base 10 fa fd ["_law_script"] (spLaw 63) := by
  have e := hfa.symm.trans (PySem.W.mg_of X G a_law)
  cases e
  have F_law_feed := fun_mk (st := s_law_feed) l_law_feed c_law_feed k_law_feed
  have b_law_feed := F_law_feed.binds (ps := ["_law_script"]) fun _ _ _ _ _ _ us hl => match us, hl with | [_], _ => rfl
  have F_law_draw := fun_mk (st := s_law_draw) l_law_draw c_law_draw k_law_draw
  have b_law_draw := F_law_draw.binds (ps := ["_law_feed_here", "_law_many"]) fun _ _ _ _ _ _ us hl => match us, hl with | [_, _], _ => rfl
  have F_law_one := fun_mk (st := s_law_one) l_law_one c_law_one k_law_one
  have b_law_one := F_law_one.binds (ps := ["_law_feed_here", "_law_items"]) fun _ _ _ _ _ _ us hl => match us, hl with | [_, _], _ => rfl
  have F_law_lines := fun_mk (st := s_law_lines) l_law_lines c_law_lines k_law_lines
  have b_law_lines := F_law_lines.binds (ps := ["_law_feed_here", "_law_inputs", "_law_count"]) fun _ _ _ _ _ _ us hl => match us, hl with | [_, _, _], _ => rfl
  have F_law_beyond := fun_mk (st := s_law_beyond) l_law_beyond c_law_beyond k_law_beyond
  have b_law_beyond := F_law_beyond.binds (ps := ["_law_feed_here", "_law_inputs", "_law_count", "_law_way", "_law_more"]) fun _ _ _ _ _ _ us hl => match us, hl with | [_, _, _, _, _], _ => rfl
  have F_Line_is_over := fun_mk (st := s_Line_is_over) l_Line_is_over c_Line_is_over k_Line_is_over
  have b_Line_is_over := F_Line_is_over.binds (ps := ["self"]) fun _ _ _ _ _ _ us hl => match us, hl with | [_], _ => rfl
  have F_Line_sees := fun_mk (st := s_Line_sees) l_Line_sees c_Line_sees k_Line_sees
  have b_Line_sees := F_Line_sees.binds (ps := ["self"]) fun _ _ _ _ _ _ us hl => match us, hl with | [_], _ => rfl
  have F_Line_fails := fun_mk (st := s_Line_fails) l_Line_fails c_Line_fails k_Line_fails
  have b_Line_fails := F_Line_fails.binds (ps := ["self"]) fun _ _ _ _ _ _ us hl => match us, hl with | [_], _ => rfl
  have F_Line_takes := fun_mk (st := s_Line_takes) l_Line_takes c_Line_takes k_Line_takes
  have b_Line_takes := F_Line_takes.binds (ps := ["self", "words"]) fun _ _ _ _ _ _ us hl => match us, hl with | [_, _], _ => rfl
  have F_Line_ends := fun_mk (st := s_Line_ends) l_Line_ends c_Line_ends k_Line_ends
  have b_Line_ends := F_Line_ends.binds (ps := ["self"]) fun _ _ _ _ _ _ us hl => match us, hl with | [_], _ => rfl
  have F_read_inputs := fun_mk (st := s_read_inputs) l_read_inputs c_read_inputs k_read_inputs
  have b_read_inputs := F_read_inputs.binds (ps := ["line"]) fun _ _ _ _ _ _ us hl => match us, hl with | [_], _ => rfl
  have F_Line_init := fun_mk (st := s_Line_init) l_Line_init c_Line_init k_Line_init
  have b_Line_init := F_Line_init.binds (ps := ["self", "number", "parts"]) fun _ _ _ _ _ _ us hl => match us, hl with | [_, _, _], _ => rfl
  have F_line_at := fun_mk (st := s_line_at) l_line_at c_line_at k_line_at
  have b_line_at := F_line_at.binds (ps := ["lines", "index"]) fun _ _ _ _ _ _ us hl => match us, hl with | [_, _], _ => rfl
  have F_is_coefficient := fun_mk (st := s_is_coefficient) l_is_coefficient c_is_coefficient k_is_coefficient
  have b_is_coefficient := F_is_coefficient.binds (ps := ["word"]) fun _ _ _ _ _ _ us hl => match us, hl with | [_], _ => rfl
  have F_read_coefficient := fun_mk (st := s_read_coefficient) l_read_coefficient c_read_coefficient k_read_coefficient
  have b_read_coefficient := F_read_coefficient.binds (ps := ["line"]) fun _ _ _ _ _ _ us hl => match us, hl with | [_], _ => rfl
  have F_read_term := fun_mk (st := s_read_term) l_read_term c_read_term k_read_term
  have b_read_term := F_read_term.binds (ps := ["line", "names"]) fun _ _ _ _ _ _ us hl => match us, hl with | [_, _], _ => rfl
  have F_read_terms := fun_mk (st := s_read_terms) l_read_terms c_read_terms k_read_terms
  have b_read_terms := F_read_terms.binds (ps := ["line", "names"]) fun _ _ _ _ _ _ us hl => match us, hl with | [_, _], _ => rfl
  have F_read_row := fun_mk (st := s_read_row) l_read_row c_read_row k_read_row
  have b_read_row := F_read_row.binds (ps := ["line", "names", "index"]) fun _ _ _ _ _ _ us hl => match us, hl with | [_, _, _], _ => rfl
  have F_place_names := fun_mk (st := s_place_names) l_place_names c_place_names k_place_names
  have b_place_names := F_place_names.binds (ps := ["inputs", "rows"]) fun _ _ _ _ _ _ us hl => match us, hl with | [_, _], _ => rfl
  have F_read_outs := fun_mk (st := s_read_outs) l_read_outs c_read_outs k_read_outs
  have b_read_outs := F_read_outs.binds (ps := ["line", "names"]) fun _ _ _ _ _ _ us hl => match us, hl with | [_, _], _ => rfl
  have F_read_program := fun_mk (st := s_read_program) l_read_program c_read_program k_read_program
  have b_read_program := F_read_program.binds (ps := ["text"]) fun _ _ _ _ _ _ us hl => match us, hl with | [_], _ => rfl
  have F_law_told := fun_mk (st := s_law_told) l_law_told c_law_told k_law_told
  have b_law_told := F_law_told.binds (ps := ["_law_text"]) fun _ _ _ _ _ _ us hl => match us, hl with | [_], _ => rfl
  have F_law := fun_mk (st := s_law) l_law c_law k_law
  have b_law := F_law.binds (ps := ["_law_script"]) fun _ _ _ _ _ _ us hl => match us, hl with | [_], _ => rfl
  have F_BadText_init := fun_mk (st := s_BadText_init) l_BadText_init c_BadText_init k_BadText_init
  have b_BadText_init := F_BadText_init.binds (ps := ["self", "line", "word"]) fun _ _ _ _ _ _ us hl => match us, hl with | [_, _, _], _ => rfl
  let T : Txt K mg := {
    c_RoundError := c_RoundError, g_RoundError := gaddr_of a_RoundError, mc_RoundError := PySem.W.mg_of X G a_RoundError,
    c_BadText := c_BadText, g_BadText := gaddr_of a_BadText, mc_BadText := PySem.W.mg_of X G a_BadText,
    x_BadText := ⟨⟨_, _, _, _, _, _, _, _, _, _, _, _, _, _, _, xl_BadText, xr_BadText⟩, sa_BadText, xe_BadText, xt_BadText, kc_BadText⟩, i_BadText := at_BadText_init, t_BadText := ti_BadText,
    no_BadText_line := no_BadText_line,
    no_BadText_word := no_BadText_word,
    c_Line := c_Line, g_Line := gaddr_of a_Line, mc_Line := PySem.W.mg_of X G a_Line,
    k_Line := ⟨pg_Line, hd_Line, po_Line, sa_Line⟩,
    e_Line_sees := ⟨at_Line_sees, fn_Line_sees, k_Line_sees⟩,
    e_Line_ends := ⟨at_Line_ends, fn_Line_ends, k_Line_ends⟩,
    e_Line_takes := ⟨at_Line_takes, fn_Line_takes, k_Line_takes⟩,
    e_Line_fails := ⟨at_Line_fails, fn_Line_fails, k_Line_fails⟩,
    o_Line_at := fld_one a_Line ⟨pg_Line, hd_Line, po_Line, sa_Line⟩ no_Line_at,
    o_Line_parts := fld_one a_Line ⟨pg_Line, hd_Line, po_Line, sa_Line⟩ no_Line_parts,
    e_Line_is_over := ⟨at_Line_is_over, fn_Line_is_over, k_Line_is_over⟩,
    o_Line_number := fld_one a_Line ⟨pg_Line, hd_Line, po_Line, sa_Line⟩ no_Line_number,
    mk_Line := ⟨ma_Line, at_Line_init, fn_Line_init, kc_Line⟩,
    tk_MOST_ROWS := tk_MOST_ROWS, m_MOST_ROWS := PySem.W.mg_of X G a_MOST_ROWS,
    tk_MOST_INPUTS := tk_MOST_INPUTS, m_MOST_INPUTS := PySem.W.mg_of X G a_MOST_INPUTS,
    tk_MOST_TERMS := tk_MOST_TERMS, m_MOST_TERMS := PySem.W.mg_of X G a_MOST_TERMS,
    tk_MOST_PLACES := tk_MOST_PLACES, m_MOST_PLACES := PySem.W.mg_of X G a_MOST_PLACES,
    tk_DIGITS := tk_DIGITS, m_DIGITS := PySem.W.mg_of X G a_DIGITS,
    w_NAMES := w_NAMES, m_NAMES := PySem.W.mg_of X G a_NAMES, r_NAMES := fun H G' => .tup (.inr ⟨_, _, _, l_NAMES, rfl, rfl, z_NAMES, v_NAMES⟩) (Rps.of_strs ["a", "b", "c", "d"]),
    tk_MOST_OUTS := tk_MOST_OUTS, m_MOST_OUTS := PySem.W.mg_of X G a_MOST_OUTS,
    xt_RoundError := fun p hp C hC => by
      simp only [List.mem_cons, List.not_mem_nil, or_false] at hp
      rcases hp with rfl
      · rw [gaddr_of a_BadText] at hC; cases hC; exact PySem.W.exm_ref sE_RoundError hd_RoundError tc_RoundError sb_BadText_RoundError,
    xt_BadText := fun p hp C hC => by
      simp only [List.mem_cons, List.not_mem_nil, or_false] at hp
      rcases hp with rfl
      · rw [gaddr_of a_BadText] at hC; cases hC; exact PySem.W.exm_ref sE_BadText hd_BadText tc_BadText sb_BadText_BadText,
    xf_word := fun p hp C hC => by
      simp only [List.mem_cons, List.not_mem_nil, or_false] at hp
      rcases hp with rfl
      · rw [gaddr_of a_BadText] at hC; cases hC; exact ⟨⟨ge_BadText, gk_BadText, sE_BadText, hd_BadText, hx_BadText, oc1, oc2, om_BadText⟩, no_BadText_word⟩,
    xf_line := fun p hp C hC => by
      simp only [List.mem_cons, List.not_mem_nil, or_false] at hp
      rcases hp with rfl
      · rw [gaddr_of a_BadText] at hC; cases hC; exact ⟨⟨ge_BadText, gk_BadText, sE_BadText, hd_BadText, hx_BadText, oc1, oc2, om_BadText⟩, no_BadText_line⟩,
    f_law_feed := f_law_feed, fd_law_feed := _, F_law_feed := F_law_feed, m_law_feed := PySem.W.mg_of X G a_law_feed, b_law_feed := b_law_feed,
    f_law_draw := f_law_draw, fd_law_draw := _, F_law_draw := F_law_draw, m_law_draw := PySem.W.mg_of X G a_law_draw, b_law_draw := b_law_draw,
    f_law_one := f_law_one, fd_law_one := _, F_law_one := F_law_one, m_law_one := PySem.W.mg_of X G a_law_one, b_law_one := b_law_one,
    f_law_lines := f_law_lines, fd_law_lines := _, F_law_lines := F_law_lines, m_law_lines := PySem.W.mg_of X G a_law_lines, b_law_lines := b_law_lines,
    f_law_beyond := f_law_beyond, fd_law_beyond := _, F_law_beyond := F_law_beyond, m_law_beyond := PySem.W.mg_of X G a_law_beyond, b_law_beyond := b_law_beyond,
    f_Line_is_over := f_Line_is_over, fd_Line_is_over := _, F_Line_is_over := F_Line_is_over, b_Line_is_over := b_Line_is_over,
    f_Line_sees := f_Line_sees, fd_Line_sees := _, F_Line_sees := F_Line_sees, b_Line_sees := b_Line_sees,
    f_Line_fails := f_Line_fails, fd_Line_fails := _, F_Line_fails := F_Line_fails, b_Line_fails := b_Line_fails,
    f_Line_takes := f_Line_takes, fd_Line_takes := _, F_Line_takes := F_Line_takes, b_Line_takes := b_Line_takes,
    f_Line_ends := f_Line_ends, fd_Line_ends := _, F_Line_ends := F_Line_ends, b_Line_ends := b_Line_ends,
    f_read_inputs := f_read_inputs, fd_read_inputs := _, F_read_inputs := F_read_inputs, m_read_inputs := PySem.W.mg_of X G a_read_inputs, b_read_inputs := b_read_inputs,
    f_Line_init := f_Line_init, fd_Line_init := _, F_Line_init := F_Line_init, b_Line_init := b_Line_init,
    f_line_at := f_line_at, fd_line_at := _, F_line_at := F_line_at, m_line_at := PySem.W.mg_of X G a_line_at, b_line_at := b_line_at,
    f_is_coefficient := f_is_coefficient, fd_is_coefficient := _, F_is_coefficient := F_is_coefficient, m_is_coefficient := PySem.W.mg_of X G a_is_coefficient, b_is_coefficient := b_is_coefficient,
    f_read_coefficient := f_read_coefficient, fd_read_coefficient := _, F_read_coefficient := F_read_coefficient, m_read_coefficient := PySem.W.mg_of X G a_read_coefficient, b_read_coefficient := b_read_coefficient,
    f_read_term := f_read_term, fd_read_term := _, F_read_term := F_read_term, m_read_term := PySem.W.mg_of X G a_read_term, b_read_term := b_read_term,
    f_read_terms := f_read_terms, fd_read_terms := _, F_read_terms := F_read_terms, m_read_terms := PySem.W.mg_of X G a_read_terms, b_read_terms := b_read_terms,
    f_read_row := f_read_row, fd_read_row := _, F_read_row := F_read_row, m_read_row := PySem.W.mg_of X G a_read_row, b_read_row := b_read_row,
    f_place_names := f_place_names, fd_place_names := _, F_place_names := F_place_names, m_place_names := PySem.W.mg_of X G a_place_names, b_place_names := b_place_names,
    f_read_outs := f_read_outs, fd_read_outs := _, F_read_outs := F_read_outs, m_read_outs := PySem.W.mg_of X G a_read_outs, b_read_outs := b_read_outs,
    f_read_program := f_read_program, fd_read_program := _, F_read_program := F_read_program, m_read_program := PySem.W.mg_of X G a_read_program, b_read_program := b_read_program,
    f_law_told := f_law_told, fd_law_told := _, F_law_told := F_law_told, m_law_told := PySem.W.mg_of X G a_law_told, b_law_told := b_law_told,
    f_law := fa, fd_law := _, F_law := F_law, m_law := PySem.W.mg_of X G a_law, b_law := b_law,
    f_BadText_init := f_BadText_init, fd_BadText_init := _, F_BadText_init := F_BadText_init, b_BadText_init := b_BadText_init,
    n_range := PySem.W.mg_none_of X G n_range,
    n_repr := PySem.W.mg_none_of X G n_repr,
    n_abs := PySem.W.mg_none_of X G n_abs,
    n_int := PySem.W.mg_none_of X G n_int,
    n_len := PySem.W.mg_none_of X G n_len,
    n_str := PySem.W.mg_none_of X G n_str,
    n_tuple := PySem.W.mg_none_of X G n_tuple,
    n_all := PySem.W.mg_none_of X G n_all,
    n_list := PySem.W.mg_none_of X G n_list }
  exact ⟨_, fun s v => .of_eq rfl, fun base _ _ => ok_law T⟩
end LW
open PySem PySem.W PyProof.Rows
set_option maxRecDepth 100000 in
set_option maxHeartbeats 0 in
theorem PySem.Challenge.cw_everyround_k88_limits_of_texts_holds : PySem.Challenge.rw_everyround_k88_limits_of_texts.Holds := by
  w_on; o_law; k_head; (case hw => w_witness2)
  k_fill
  refine DL.walkG (l := PySem.Challenge.rw_everyround_k88_limits_of_texts) (n := 63) (k := 10) (x := "_law_script") rfl (by decide) rfl ⟨rfl, by decide, by decide⟩ (fun w h Y => PySem.W.kIn_of Y) ?F
  case F =>
    intro w mg fa h KX G hmg
    refine' LW.all_mk KX G hmg ?a_RoundError ?a_BadText ?a_Line ?sa_BadText ?kc_BadText ?ge_BadText ?gk_BadText ?sE_BadText ?hd_BadText ?hx_BadText ?oc1 ?oc2 ?om_BadText ?no_BadText_word ?no_BadText_line ?xl_BadText ?xr_BadText ?xe_BadText ?xt_BadText ?at_BadText_init ?ti_BadText ?pg_Line ?hd_Line ?po_Line ?sa_Line ?kc_Line ?at_Line_sees ?fn_Line_sees ?at_Line_ends ?fn_Line_ends ?at_Line_takes ?fn_Line_takes ?at_Line_fails ?fn_Line_fails ?no_Line_at ?no_Line_parts ?at_Line_is_over ?fn_Line_is_over ?no_Line_number ?ma_Line ?at_Line_init ?fn_Line_init ?sE_RoundError ?hd_RoundError ?tc_RoundError ?sb_BadText_RoundError ?tc_BadText ?sb_BadText_BadText ?a_MOST_ROWS ?a_MOST_INPUTS ?a_MOST_TERMS ?a_MOST_PLACES ?a_DIGITS ?a_NAMES ?l_NAMES ?v_NAMES ?z_NAMES ?a_MOST_OUTS ?a_law_feed ?l_law_feed ?c_law_feed ?k_law_feed ?a_law_draw ?l_law_draw ?c_law_draw ?k_law_draw ?a_law_one ?l_law_one ?c_law_one ?k_law_one ?a_law_lines ?l_law_lines ?c_law_lines ?k_law_lines ?a_law_beyond ?l_law_beyond ?c_law_beyond ?k_law_beyond ?l_Line_is_over ?c_Line_is_over ?k_Line_is_over ?l_Line_sees ?c_Line_sees ?k_Line_sees ?l_Line_fails ?c_Line_fails ?k_Line_fails ?l_Line_takes ?c_Line_takes ?k_Line_takes ?l_Line_ends ?c_Line_ends ?k_Line_ends ?a_read_inputs ?l_read_inputs ?c_read_inputs ?k_read_inputs ?l_Line_init ?c_Line_init ?k_Line_init ?a_line_at ?l_line_at ?c_line_at ?k_line_at ?a_is_coefficient ?l_is_coefficient ?c_is_coefficient ?k_is_coefficient ?a_read_coefficient ?l_read_coefficient ?c_read_coefficient ?k_read_coefficient ?a_read_term ?l_read_term ?c_read_term ?k_read_term ?a_read_terms ?l_read_terms ?c_read_terms ?k_read_terms ?a_read_row ?l_read_row ?c_read_row ?k_read_row ?a_place_names ?l_place_names ?c_place_names ?k_place_names ?a_read_outs ?l_read_outs ?c_read_outs ?k_read_outs ?a_read_program ?l_read_program ?c_read_program ?k_read_program ?a_law_told ?l_law_told ?c_law_told ?k_law_told ?a_law ?l_law ?c_law ?k_law ?l_BadText_init ?c_BadText_init ?k_BadText_init ?n_range ?n_repr ?n_abs ?n_int ?n_len ?n_str ?n_tuple ?n_all ?n_list
    (case a_RoundError => k_is)
    (case a_BadText => k_is)
    (case a_Line => k_is)
    (case sa_BadText => k_is)
    (case kc_BadText => k_is)
    (case ge_BadText => k_is)
    (case gk_BadText => k_is)
    (case sE_BadText => k_is)
    (case hd_BadText => k_is)
    (case hx_BadText => k_is)
    (case oc1 => k_is)
    (case oc2 => k_is)
    (case om_BadText => k_is)
    (case no_BadText_word => k_is)
    (case no_BadText_line => k_is)
    (case xl_BadText => k_is)
    (case xr_BadText => decide +kernel)
    (case xe_BadText => k_is)
    (case xt_BadText => k_is)
    (case at_BadText_init => k_is)
    (case ti_BadText => k_is)
    (case pg_Line => k_is)
    (case hd_Line => k_is)
    (case po_Line => k_is)
    (case sa_Line => k_is)
    (case kc_Line => k_is)
    (case at_Line_sees => k_is)
    (case fn_Line_sees => k_is)
    (case at_Line_ends => k_is)
    (case fn_Line_ends => k_is)
    (case at_Line_takes => k_is)
    (case fn_Line_takes => k_is)
    (case at_Line_fails => k_is)
    (case fn_Line_fails => k_is)
    (case no_Line_at => k_is)
    (case no_Line_parts => k_is)
    (case at_Line_is_over => k_is)
    (case fn_Line_is_over => k_is)
    (case no_Line_number => k_is)
    (case ma_Line => k_is)
    (case at_Line_init => k_is)
    (case fn_Line_init => k_is)
    (case sE_RoundError => k_is)
    (case hd_RoundError => k_is)
    (case tc_RoundError => k_is)
    (case sb_BadText_RoundError => k_is)
    (case tc_BadText => k_is)
    (case sb_BadText_BadText => k_is)
    (case a_MOST_ROWS => k_is)
    (case a_MOST_INPUTS => k_is)
    (case a_MOST_TERMS => k_is)
    (case a_MOST_PLACES => k_is)
    (case a_DIGITS => k_is)
    (case a_NAMES => k_is)
    (case l_NAMES => k_is)
    (case v_NAMES => exact .cons ⟨_, rfl⟩ (.cons ⟨_, rfl⟩ (.cons ⟨_, rfl⟩ (.cons ⟨_, rfl⟩ (.nil)))))
    (case z_NAMES => exact DL.sz_small (by decide))
    (case a_MOST_OUTS => k_is)
    (case a_law_feed => k_is)
    (case l_law_feed => k_is)
    (case c_law_feed => k_is)
    (case k_law_feed => k_is)
    (case a_law_draw => k_is)
    (case l_law_draw => k_is)
    (case c_law_draw => k_is)
    (case k_law_draw => k_is)
    (case a_law_one => k_is)
    (case l_law_one => k_is)
    (case c_law_one => k_is)
    (case k_law_one => k_is)
    (case a_law_lines => k_is)
    (case l_law_lines => k_is)
    (case c_law_lines => k_is)
    (case k_law_lines => k_is)
    (case a_law_beyond => k_is)
    (case l_law_beyond => k_is)
    (case c_law_beyond => k_is)
    (case k_law_beyond => k_is)
    (case l_Line_is_over => k_is)
    (case c_Line_is_over => k_is)
    (case k_Line_is_over => k_is)
    (case l_Line_sees => k_is)
    (case c_Line_sees => k_is)
    (case k_Line_sees => k_is)
    (case l_Line_fails => k_is)
    (case c_Line_fails => k_is)
    (case k_Line_fails => k_is)
    (case l_Line_takes => k_is)
    (case c_Line_takes => k_is)
    (case k_Line_takes => k_is)
    (case l_Line_ends => k_is)
    (case c_Line_ends => k_is)
    (case k_Line_ends => k_is)
    (case a_read_inputs => k_is)
    (case l_read_inputs => k_is)
    (case c_read_inputs => k_is)
    (case k_read_inputs => k_is)
    (case l_Line_init => k_is)
    (case c_Line_init => k_is)
    (case k_Line_init => k_is)
    (case a_line_at => k_is)
    (case l_line_at => k_is)
    (case c_line_at => k_is)
    (case k_line_at => k_is)
    (case a_is_coefficient => k_is)
    (case l_is_coefficient => k_is)
    (case c_is_coefficient => k_is)
    (case k_is_coefficient => k_is)
    (case a_read_coefficient => k_is)
    (case l_read_coefficient => k_is)
    (case c_read_coefficient => k_is)
    (case k_read_coefficient => k_is)
    (case a_read_term => k_is)
    (case l_read_term => k_is)
    (case c_read_term => k_is)
    (case k_read_term => k_is)
    (case a_read_terms => k_is)
    (case l_read_terms => k_is)
    (case c_read_terms => k_is)
    (case k_read_terms => k_is)
    (case a_read_row => k_is)
    (case l_read_row => k_is)
    (case c_read_row => k_is)
    (case k_read_row => k_is)
    (case a_place_names => k_is)
    (case l_place_names => k_is)
    (case c_place_names => k_is)
    (case k_place_names => k_is)
    (case a_read_outs => k_is)
    (case l_read_outs => k_is)
    (case c_read_outs => k_is)
    (case k_read_outs => k_is)
    (case a_read_program => k_is)
    (case l_read_program => k_is)
    (case c_read_program => k_is)
    (case k_read_program => k_is)
    (case a_law_told => k_is)
    (case l_law_told => k_is)
    (case c_law_told => k_is)
    (case k_law_told => k_is)
    (case a_law => k_is)
    (case l_law => k_is)
    (case c_law => k_is)
    (case k_law => k_is)
    (case l_BadText_init => k_is)
    (case c_BadText_init => k_is)
    (case k_BadText_init => k_is)
    (case n_range => k_is)
    (case n_repr => k_is)
    (case n_abs => k_is)
    (case n_int => k_is)
    (case n_len => k_is)
    (case n_str => k_is)
    (case n_tuple => k_is)
    (case n_all => k_is)
    (case n_list => k_is)
#print axioms PySem.Challenge.cw_everyround_k88_limits_of_texts_holds
